import PyProof.Rows.All
import Wide.All
import OpenK.AllK
import Wide.FinOn
import KE.KStateDown
import KE.KIsAll
import KE.KTryMore
import KE.KExcSuper
import KE.KExcIs
import Lean
import HandS.ForMost
import HandS.Exc
import HandS.TryOnly
import HandS.ExcOwn
import HandS.WordsExc
import HandS.Defaults
import HandS.MakeKw
import HandS.IsInst
import HandS.Style
import HandS.Deep
import HandS.Walk
import HandS.ExcIs
import HandS.ExcField
import HandS.ExcInit
import HandS.HotCalls
import HandS.Head0
import HandS.Head1
import HandS.Head2
import HandS.HeadEnd
import HandS.HeadHook1
import HandS.HeadHook2
import KE.GoesEnum
import PySem.Challenge.RW_counthall_k66_whole_cheapest_table
set_option Elab.async false
set_option linter.all false
set_option maxRecDepth 100000
set_option maxHeartbeats 4000000
/-! Arcs, walks, potentials; tables closed by passing over the nodes. -/
namespace Kw

structure Arc where
  s : Nat
  e : Nat
  l : Int
  ix : Nat
  sg : Int

abbrev Tb := Nat → Nat → Option Int

/-- known, and at most c -/
def Le (o : Option Int) (c : Int) : Prop := ∃ b, o = some b ∧ b ≤ c

theorem Le.of {c : Int} : Le (some c) c := ⟨c, rfl, Int.le_refl c⟩
theorem Le.mono {o : Option Int} {c c' : Int} (h : Le o c) (k : c ≤ c') : Le o c' := by
  obtain ⟨b, e, hb⟩ := h
  exact ⟨b, e, by omega⟩

/-- the lesser of a cell and a number, where none is no number -/
def imp (o : Option Int) (c : Int) : Option Int := match o with
  | none => some c
  | some b => if c < b then some c else some b

theorem imp_le (o : Option Int) (c : Int) : Le (imp o c) c := by
  unfold imp
  cases o with
  | none => exact Le.of
  | some b =>
    dsimp only
    split
    · exact Le.of
    · exact ⟨b, rfl, by omega⟩
theorem imp_old {o : Option Int} {b : Int} (c : Int) (h : o = some b) : Le (imp o c) b := by
  subst h
  unfold imp
  dsimp only
  split
  · exact ⟨c, rfl, by omega⟩
  · exact Le.of
theorem imp_cases {o : Option Int} {c d : Int} (h : imp o c = some d) : d = c ∨ o = some d := by
  unfold imp at h
  cases o with
  | none =>
    left
    exact (Option.some.inj h).symm
  | some b =>
    dsimp only at h
    split at h
    · left
      exact (Option.some.inj h).symm
    · right
      exact h

inductive Walk (as : List Arc) : Nat → Nat → Int → Prop
  | nil (i : Nat) : Walk as i i 0
  | snoc {i : Nat} {c : Int} (a : Arc) : a ∈ as → Walk as i a.s c → Walk as i a.e (c + a.l)

theorem Walk.trans {as : List Arc} {i j k : Nat} {c d : Int} (h : Walk as i j c) (g : Walk as j k d) : Walk as i k (c + d) := by
  induction g with
  | nil => simpa using h
  | snoc a ha _ ih =>
    have := Walk.snoc a ha ih
    rwa [Int.add_assoc] at this
theorem Walk.one {as : List Arc} {a : Arc} (h : a ∈ as) : Walk as a.s a.e a.l := by
  have := Walk.snoc a h (Walk.nil a.s)
  simpa using this

def Pot (as : List Arc) (x : Nat → Int) : Prop := ∀ a ∈ as, x a.e - x a.s ≤ a.l

theorem Walk.pot {as : List Arc} {x : Nat → Int} (p : Pot as x) {i j : Nat} {c : Int} (h : Walk as i j c) : x j - x i ≤ c := by
  induction h with
  | nil => omega
  | snoc a ha _ ih =>
    have := p a ha
    omega

/-! ### the table -/
def init : Tb := fun i j => if i = j then some 0 else none
def addArc (T : Tb) (a : Arc) : Tb := fun i j => if i = a.s ∧ j = a.e then imp (T i j) a.l else T i j
def arcTab (as : List Arc) : Tb := as.foldl addArc init
def pass (T : Tb) (m : Nat) : Tb := fun i j => match T i m, T m j with
  | some b, some r => imp (T i j) (b + r)
  | _, _ => T i j
def fw (n : Nat) (T : Tb) : Tb := (List.range n).foldl pass T

theorem fw_succ (n : Nat) (T : Tb) : fw (n + 1) T = pass (fw n T) n := by
  unfold fw
  rw [List.range_succ, List.foldl_append]
  rfl

def Real (as : List Arc) (T : Tb) : Prop := ∀ i j c, T i j = some c → Walk as i j c
def Diag (T : Tb) : Prop := ∀ i, T i i = some 0
def Tri (k : Nat) (T : Tb) : Prop := ∀ i j a, a < k → ∀ b c, T i a = some b → T a j = some c → Le (T i j) (b + c)

theorem init_real (as : List Arc) : Real as init := by
  intro i j c h
  unfold init at h
  split at h
  · rename_i e
    subst e
    cases h
    exact Walk.nil i
  · cases h
theorem init_diag : Diag init := by
  intro i
  unfold init
  rw [if_pos rfl]
theorem real_diag {as : List Arc} {x : Nat → Int} (p : Pot as x) {T : Tb} (r : Real as T) {i : Nat} {c : Int} (h : T i i = some c) : 0 ≤ c := by
  have := (r i i c h).pot p
  omega
theorem addArc_real {as : List Arc} {T : Tb} {a : Arc} (ha : a ∈ as) (r : Real as T) : Real as (addArc T a) := by
  intro i j c h
  unfold addArc at h
  split at h
  · rename_i e
    obtain ⟨rfl, rfl⟩ := e
    rcases imp_cases h with h | h
    · subst h
      exact Walk.one ha
    · exact r _ _ _ h
  · exact r _ _ _ h
theorem addArc_old {T : Tb} {a : Arc} {i j : Nat} {c : Int} (h : T i j = some c) : Le (addArc T a i j) c := by
  unfold addArc
  split
  · exact imp_old _ h
  · exact ⟨c, h, Int.le_refl c⟩
theorem addArc_le (T : Tb) (a : Arc) : Le (addArc T a a.s a.e) a.l := by
  unfold addArc
  rw [if_pos ⟨rfl, rfl⟩]
  exact imp_le _ _
theorem diag_of {as : List Arc} {x : Nat → Int} (p : Pot as x) {T T' : Tb} (r : Real as T') (d : Diag T) (o : ∀ i j c, T i j = some c → Le (T' i j) c) : Diag T' := by
  intro i
  obtain ⟨b, e, hb⟩ := o i i 0 (d i)
  have := real_diag p r e
  rw [e]
  congr 1
  omega

/-- what the list of arcs leaves: real, the diagonal, below each arc -/
theorem arcs_fold {as : List Arc} {x : Nat → Int} (p : Pot as x) : ∀ (bs : List Arc) (T : Tb), (∀ a ∈ bs, a ∈ as) → Real as T → Diag T →
    Real as (bs.foldl addArc T) ∧ Diag (bs.foldl addArc T) ∧ (∀ i j c, T i j = some c → Le (bs.foldl addArc T i j) c) ∧ ∀ a ∈ bs, Le (bs.foldl addArc T a.s a.e) a.l
  | [], T, _, r, d => ⟨r, d, fun i j c h => ⟨c, h, Int.le_refl c⟩, fun a h => nomatch h⟩
  | b :: bs, T, hs, r, d => by
    have r1 := addArc_real (hs b List.mem_cons_self) r
    have d1 := diag_of p r1 d (fun i j c h => addArc_old (a := b) h)
    obtain ⟨h1, h2, h3, h4⟩ := arcs_fold p bs (addArc T b) (fun a h => hs a (List.mem_cons_of_mem _ h)) r1 d1
    refine ⟨h1, h2, fun i j c h => ?_, fun a ha => ?_⟩
    · obtain ⟨c', e, l⟩ := addArc_old (a := b) h
      exact (h3 i j c' e).mono l
    · rcases List.mem_cons.mp ha with rfl | ha
      · obtain ⟨c', e, l⟩ := addArc_le T a
        exact (h3 _ _ c' e).mono l
      · exact h4 a ha

theorem pass_cases {T : Tb} {m i j : Nat} {c : Int} (h : pass T m i j = some c) : T i j = some c ∨ ∃ b r, T i m = some b ∧ T m j = some r ∧ c = b + r := by
  unfold pass at h
  split at h
  · rename_i b r e1 e2
    rcases imp_cases h with h | h
    · exact Or.inr ⟨b, r, e1, e2, h⟩
    · exact Or.inl h
  · exact Or.inl h
theorem pass_old {T : Tb} {m i j : Nat} {c : Int} (h : T i j = some c) : Le (pass T m i j) c := by
  unfold pass
  split
  · exact imp_old _ h
  · exact ⟨c, h, Int.le_refl c⟩
theorem pass_via {T : Tb} {m i j : Nat} {b r : Int} (h1 : T i m = some b) (h2 : T m j = some r) : Le (pass T m i j) (b + r) := by
  unfold pass
  rw [h1, h2]
  exact imp_le _ _
theorem pass_real {as : List Arc} {T : Tb} {m : Nat} (r : Real as T) : Real as (pass T m) := by
  intro i j c h
  rcases pass_cases h with h | ⟨b, s, h1, h2, rfl⟩
  · exact r _ _ _ h
  · exact (r _ _ _ h1).trans (r _ _ _ h2)
theorem pass_tri {as : List Arc} {x : Nat → Int} (p : Pot as x) {T : Tb} {m : Nat} (r : Real as T) (d : Diag T) (t : Tri m T) : Tri (m + 1) (pass T m) := by
  intro i j a ha b c hb hc
  by_cases e : a = m
  · subst e
    have hb' : T i a = some b := by
      rcases pass_cases hb with h | ⟨b1, r1, h1, h2, e⟩
      · exact h
      · have := d a
        rw [h2] at this
        cases this
        rw [h1, e]
        congr 1
        omega
    have hc' : T a j = some c := by
      rcases pass_cases hc with h | ⟨b1, r1, h1, h2, e⟩
      · exact h
      · have := d a
        rw [h1] at this
        cases this
        rw [h2, e]
        congr 1
        omega
    exact pass_via hb' hc'
  · have ha' : a < m := by omega
    rcases pass_cases hb with hb | ⟨b1, r1, h1, h2, rfl⟩
    · rcases pass_cases hc with hc | ⟨b2, r2, h3, h4, rfl⟩
      · obtain ⟨v, e1, l1⟩ := t i j a ha' b c hb hc
        exact (pass_old e1).mono l1
      · obtain ⟨v, e1, l1⟩ := t i m a ha' b b2 hb h3
        exact (pass_via e1 h4).mono (by omega)
    · rcases pass_cases hc with hc | ⟨b2, r2, h3, h4, rfl⟩
      · obtain ⟨v, e1, l1⟩ := t m j a ha' r1 c h2 hc
        exact (pass_via h1 e1).mono (by omega)
      · obtain ⟨v, e1, l1⟩ := t m m a ha' r1 b2 h2 h3
        have z := d m
        rw [e1] at z
        cases z
        exact (pass_via h1 h4).mono (by omega)

theorem fw_ok {as : List Arc} {x : Nat → Int} (p : Pot as x) {T : Tb} (r : Real as T) (d : Diag T) : ∀ n : Nat,
    Real as (fw n T) ∧ Diag (fw n T) ∧ Tri n (fw n T) ∧ ∀ i j c, T i j = some c → Le (fw n T i j) c
  | 0 => ⟨r, d, fun i j a ha => by omega, fun i j c h => ⟨c, h, Int.le_refl c⟩⟩
  | n + 1 => by
    obtain ⟨h1, h2, h3, h4⟩ := fw_ok p r d n
    rw [fw_succ]
    have r1 := pass_real (m := n) h1
    refine ⟨r1, diag_of p r1 h2 (fun i j c h => pass_old h), pass_tri p h1 h2 h3, fun i j c h => ?_⟩
    obtain ⟨c', e, l⟩ := h4 i j c h
    exact (pass_old e).mono l

/-- a closed table of arcs between the nodes below n -/
structure Closed (n : Nat) (as : List Arc) (T : Tb) : Prop where
  real : Real as T
  diag : Diag T
  tri : Tri n T
  arc : ∀ a ∈ as, Le (T a.s a.e) a.l

def clo (n : Nat) (as : List Arc) : Tb := fw n (arcTab as)

theorem clo_ok {n : Nat} {as : List Arc} {x : Nat → Int} (p : Pot as x) : Closed n as (clo n as) := by
  obtain ⟨h1, h2, _, h4⟩ := arcs_fold p as init (fun _ h => h) (init_real as) init_diag
  obtain ⟨g1, g2, g3, g4⟩ := fw_ok p h1 h2 n
  refine ⟨g1, g2, g3, fun a ha => ?_⟩
  obtain ⟨c, e, l⟩ := h4 a ha
  exact (g4 _ _ c e).mono l

/-- each difference that a potential has is below the table -/
theorem Closed.pot {n : Nat} {as : List Arc} {T : Tb} (h : Closed n as T) {x : Nat → Int} (p : Pot as x) {i j : Nat} {c : Int} (e : T i j = some c) : x j - x i ≤ c := (h.real i j c e).pot p

/-- each node is reached from each one -/
def Reach (as : List Arc) (i j : Nat) : Prop := ∃ c, Walk as i j c
theorem Closed.known {n : Nat} {as : List Arc} {T : Tb} (h : Closed n as T) (hn : ∀ a ∈ as, a.s < n ∧ a.e < n) {i j : Nat} {c : Int} (w : Walk as i j c) : Le (T i j) c := by
  induction w with
  | nil => exact ⟨0, h.diag i, Int.le_refl 0⟩
  | snoc a ha _ ih =>
    obtain ⟨b, e, l⟩ := ih
    obtain ⟨b', e', l'⟩ := h.arc a ha
    exact (h.tri i a.e a.s (hn a ha).1 b b' e e').mono (by omega)

/-- the row of a node is a potential -/
def rowPot (T : Tb) (i : Nat) : Nat → Int := fun j => (T i j).getD 0
theorem Closed.rowPot {n : Nat} {as : List Arc} {T : Tb} (h : Closed n as T) (hn : ∀ a ∈ as, a.s < n ∧ a.e < n) {i : Nat} (hr : ∀ j, j < n → Reach as i j) : Pot as (Kw.rowPot T i) := by
  intro a ha
  obtain ⟨c1, w1⟩ := hr a.s (hn a ha).1
  obtain ⟨b, e, _⟩ := h.known hn w1
  obtain ⟨b', e', l'⟩ := h.arc a ha
  obtain ⟨b2, e2, l2⟩ := h.tri i a.e a.s (hn a ha).1 b b' e e'
  show (T i a.e).getD 0 - (T i a.s).getD 0 ≤ a.l
  rw [e, e2]
  show b2 - b ≤ a.l
  omega
end Kw

/-! Rounds of improving: shortest ways from one node, by last arcs. -/
namespace Kw

structure BS where
  d : Nat → Option Int
  L : Nat → Option Arc
  im : Option Nat

def put {α : Type} (f : Nat → α) (i : Nat) (v : α) : Nat → α := fun j => if j = i then v else f j
theorem put_same {α : Type} {f : Nat → α} {i : Nat} {v : α} : put f i v i = v := by
  unfold put
  rw [if_pos rfl]
theorem put_ne {α : Type} {f : Nat → α} {i j : Nat} {v : α} (h : j ≠ i) : put f i v j = f j := by
  unfold put
  rw [if_neg h]

def better (o : Option Int) (c : Int) : Bool := match o with
  | none => true
  | some b => decide (c < b)

def relax (S : BS) (a : Arc) : BS := match S.d a.s with
  | some c => if better (S.d a.e) (c + a.l) = true then ⟨put S.d a.e (some (c + a.l)), put S.L a.e (some a), some a.e⟩ else S
  | none => S

def round (as : List Arc) (S : BS) : BS := as.foldl relax { S with im := none }
def rounds (as : List Arc) : Nat → BS → BS
  | 0, S => S
  | k + 1, S => if (round as S).im = none then round as S else rounds as k (round as S)

/-- v stands on the way back from w along last arcs -/
inductive Anc (L : Nat → Option Arc) (v : Nat) : Nat → Prop
  | refl : Anc L v v
  | step {w : Nat} (a : Arc) : L w = some a → Anc L v a.s → Anc L v w

structure BI (as : List Arc) (x : Nat → Int) (b : Nat) (S : BS) : Prop where
  start : S.d b = some 0
  real : ∀ v c, S.d v = some c → Walk as b v c
  last : ∀ v a, S.L v = some a → a ∈ as ∧ a.e = v ∧ ∃ c c', S.d a.s = some c ∧ S.d v = some c' ∧ c + a.l ≤ c'
  top : S.L b = none
  root : ∀ v c, S.d v = some c → Anc S.L b v

section
variable {as : List Arc} {x : Nat → Int} {b : Nat} {S : BS}

theorem Anc.slack (p : Pot as x) (I : BI as x b S) {v w : Nat} (h : Anc S.L v w) : ∀ c, S.d w = some c → ∃ c', S.d v = some c' ∧ c' - x v ≤ c - x w := by
  induction h with
  | refl => exact fun c e => ⟨c, e, Int.le_refl _⟩
  | step a hl _ ih =>
    intro c e
    obtain ⟨ha, he, c1, c2, h1, h2, h3⟩ := I.last _ a hl
    rw [h2] at e
    cases e
    obtain ⟨c', e', k⟩ := ih c1 h1
    have := p a ha
    rw [he] at this
    exact ⟨c', e', by omega⟩

theorem relax_none {a : Arc} (h : S.d a.s = none) : relax S a = S := by
  unfold relax
  rw [h]
theorem relax_no {a : Arc} {c : Int} (h : S.d a.s = some c) (g : better (S.d a.e) (c + a.l) = false) : relax S a = S := by
  unfold relax
  rw [h]
  dsimp only
  rw [g, if_neg Bool.false_ne_true]
theorem relax_yes {a : Arc} {c : Int} (h : S.d a.s = some c) (g : better (S.d a.e) (c + a.l) = true) : relax S a = ⟨put S.d a.e (some (c + a.l)), put S.L a.e (some a), some a.e⟩ := by
  unfold relax
  rw [h]
  dsimp only
  rw [g, if_pos rfl]

/-- an arc that improves: its end is no forebear of its start -/
theorem no_ring (p : Pot as x) (I : BI as x b S) {a : Arc} (ha : a ∈ as) {c : Int} (h : S.d a.s = some c) (g : better (S.d a.e) (c + a.l) = true) : ¬ Anc S.L a.e a.s := by
  intro z
  obtain ⟨c', e, k⟩ := z.slack p I c h
  rw [e] at g
  have : c + a.l < c' := of_decide_eq_true g
  have := p a ha
  omega
theorem no_start (p : Pot as x) (I : BI as x b S) {a : Arc} (ha : a ∈ as) {c : Int} (h : S.d a.s = some c) (g : better (S.d a.e) (c + a.l) = true) : a.e ≠ b := by
  intro e
  exact no_ring p I ha h g (by rw [e]; exact I.root _ c h)

theorem relax_ok (p : Pot as x) (I : BI as x b S) {a : Arc} (ha : a ∈ as) : BI as x b (relax S a) := by
  cases h : S.d a.s with
  | none =>
    rw [relax_none h]
    exact I
  | some c =>
    cases g : better (S.d a.e) (c + a.l) with
    | false =>
      rw [relax_no h g]
      exact I
    | true =>
      rw [relax_yes h g]
      have nr := no_ring p I ha h g
      have nb := no_start p I ha h g
      have nse : a.s ≠ a.e := fun e => nr (by rw [e]; exact Anc.refl)
      have far : ∀ w, Anc S.L b w → ¬ Anc S.L a.e w → Anc (put S.L a.e (some a)) b w := by
        intro w hw
        induction hw with
        | refl => exact fun _ => Anc.refl
        | step a' hl _ ih =>
          intro hn
          rename_i w' _
          have hne : w' ≠ a.e := fun e => hn (by rw [e]; exact Anc.refl)
          refine Anc.step a' (by rw [put_ne hne]; exact hl) (ih fun z => hn (Anc.step a' hl z))
      have hs : Anc (put S.L a.e (some a)) b a.s := far a.s (I.root _ c h) nr
      have hv : Anc (put S.L a.e (some a)) b a.e := Anc.step a put_same hs
      have near : ∀ w, Anc S.L a.e w → Anc (put S.L a.e (some a)) b w := by
        intro w hw
        induction hw with
        | refl => exact hv
        | step a' hl _ ih =>
          rename_i w' _
          by_cases e : w' = a.e
          · rw [e]
            exact hv
          · exact Anc.step a' (by rw [put_ne e]; exact hl) ih
      refine ⟨?_, fun v c' e => ?_, fun v a' e => ?_, ?_, fun v c' e => ?_⟩
      · show put S.d a.e _ b = _
        rw [put_ne nb.symm]
        exact I.start
      · have e' : put S.d a.e (some (c + a.l)) v = some c' := e
        by_cases q : v = a.e
        · subst q
          rw [put_same] at e'
          cases e'
          exact Walk.snoc a ha (I.real _ _ h)
        · rw [put_ne q] at e'
          exact I.real _ _ e'
      · have e' : put S.L a.e (some a) v = some a' := e
        by_cases q : v = a.e
        · subst q
          rw [put_same] at e'
          cases e'
          exact ⟨ha, rfl, c, c + a.l, by show put S.d a.e _ a.s = _; rw [put_ne nse]; exact h, put_same, Int.le_refl _⟩
        · rw [put_ne q] at e'
          obtain ⟨h1, h2, c1, c2, h3, h4, h5⟩ := I.last v a' e'
          refine ⟨h1, h2, ?_⟩
          by_cases q2 : a'.s = a.e
          · rw [q2] at h3
            rw [h3] at g
            have : c + a.l < c1 := of_decide_eq_true g
            refine ⟨c + a.l, c2, ?_, ?_, by omega⟩
            · show put S.d a.e _ a'.s = _
              rw [q2, put_same]
            · show put S.d a.e _ v = _
              rw [put_ne q]
              exact h4
          · refine ⟨c1, c2, ?_, ?_, h5⟩
            · show put S.d a.e _ a'.s = _
              rw [put_ne q2]
              exact h3
            · show put S.d a.e _ v = _
              rw [put_ne q]
              exact h4
      · show put S.L a.e _ b = _
        rw [put_ne nb.symm]
        exact I.top
      · by_cases q : Anc S.L a.e v
        · exact near v q
        · have e' : put S.d a.e (some (c + a.l)) v = some c' := e
          have qv : v ≠ a.e := fun z => q (by rw [z]; exact Anc.refl)
          rw [put_ne qv] at e'
          exact far v (I.root v c' e') q

theorem fold_ok (p : Pot as x) : ∀ (bs : List Arc) (S : BS), (∀ a ∈ bs, a ∈ as) → BI as x b S → BI as x b (bs.foldl relax S)
  | [], _, _, I => I
  | a :: bs, S, hs, I => fold_ok p bs (relax S a) (fun a h => hs a (List.mem_cons_of_mem _ h)) (relax_ok p I (hs a List.mem_cons_self))
theorem BI.im (I : BI as x b S) (o : Option Nat) : BI as x b { S with im := o } := ⟨I.start, I.real, I.last, I.top, I.root⟩
theorem round_ok (p : Pot as x) (I : BI as x b S) : BI as x b (round as S) := fold_ok p as _ (fun _ h => h) (I.im none)
theorem rounds_ok (p : Pot as x) : ∀ (k : Nat) (S : BS), BI as x b S → BI as x b (rounds as k S)
  | 0, _, I => I
  | k + 1, S, I => by
    unfold rounds
    split
    · exact round_ok p I
    · exact rounds_ok p k _ (round_ok p I)

/-! ### the numbers of a round only fall; where one is improved, the round says so -/
theorem relax_le {a : Arc} {v : Nat} {c : Int} (h : S.d v = some c) : Le ((relax S a).d v) c := by
  cases hs : S.d a.s with
  | none =>
    rw [relax_none hs]
    exact ⟨c, h, Int.le_refl _⟩
  | some c1 =>
    cases g : better (S.d a.e) (c1 + a.l) with
    | false =>
      rw [relax_no hs g]
      exact ⟨c, h, Int.le_refl _⟩
    | true =>
      rw [relax_yes hs g]
      show Le (put S.d a.e (some (c1 + a.l)) v) c
      by_cases q : v = a.e
      · subst q
        rw [put_same]
        rw [h] at g
        have : c1 + a.l < c := of_decide_eq_true g
        exact ⟨_, rfl, by omega⟩
      · rw [put_ne q]
        exact ⟨c, h, Int.le_refl _⟩
theorem fold_le : ∀ (bs : List Arc) (S : BS) (v : Nat) (c : Int), S.d v = some c → Le ((bs.foldl relax S).d v) c
  | [], _, _, c, h => ⟨c, h, Int.le_refl _⟩
  | a :: bs, S, v, c, h => by
    obtain ⟨c1, e, l⟩ := relax_le (a := a) h
    exact (fold_le bs (relax S a) v c1 e).mono l
/-- behind an arc its end is below its start -/
theorem relax_arc {a : Arc} {c : Int} (h : S.d a.s = some c) (hse : a.s ≠ a.e ∨ 0 ≤ a.l) : Le ((relax S a).d a.e) (c + a.l) := by
  cases g : better (S.d a.e) (c + a.l) with
  | false =>
    rw [relax_no h g]
    cases e : S.d a.e with
    | none =>
      rw [e] at g
      cases g
    | some c' =>
      rw [e] at g
      have := of_decide_eq_false g
      exact ⟨c', rfl, by omega⟩
  | true =>
    rw [relax_yes h g]
    show Le (put S.d a.e (some (c + a.l)) a.e) _
    rw [put_same]
    exact Le.of

/-- a fold that improves nothing changes nothing, and then each arc is kept -/
theorem fold_still : ∀ (bs : List Arc) (S : BS), S.im = none → (bs.foldl relax S).im = none → bs.foldl relax S = S ∧ ∀ a ∈ bs, ∀ c, S.d a.s = some c → Le (S.d a.e) (c + a.l)
  | [], S, _, _ => ⟨rfl, fun a h => nomatch h⟩
  | a :: bs, S, h0, h => by
    have mono : ∀ (bs : List Arc) (S : BS), S.im ≠ none → (bs.foldl relax S).im ≠ none := by
      intro bs
      induction bs with
      | nil => exact fun S h => h
      | cons a bs ih =>
        intro S h
        refine ih (relax S a) ?_
        cases hs : S.d a.s with
        | none =>
          rw [relax_none hs]
          exact h
        | some c1 =>
          cases g : better (S.d a.e) (c1 + a.l) with
          | false =>
            rw [relax_no hs g]
            exact h
          | true =>
            rw [relax_yes hs g]
            exact fun z => nomatch z
    have h' : (bs.foldl relax (relax S a)).im = none := h
    cases hs : S.d a.s with
    | none =>
      rw [relax_none hs] at h'
      obtain ⟨e, k⟩ := fold_still bs S h0 h'
      refine ⟨by show bs.foldl relax (relax S a) = S; rw [relax_none hs]; exact e, fun a' ha c hc => ?_⟩
      rcases List.mem_cons.mp ha with rfl | ha
      · rw [hs] at hc
        cases hc
      · exact k a' ha c hc
    | some c1 =>
      cases g : better (S.d a.e) (c1 + a.l) with
      | false =>
        rw [relax_no hs g] at h'
        obtain ⟨e, k⟩ := fold_still bs S h0 h'
        refine ⟨by show bs.foldl relax (relax S a) = S; rw [relax_no hs g]; exact e, fun a' ha c hc => ?_⟩
        rcases List.mem_cons.mp ha with rfl | ha
        · rw [hs] at hc
          cases hc
          cases e2 : S.d a'.e with
          | none =>
            rw [e2] at g
            cases g
          | some c' =>
            rw [e2] at g
            have := of_decide_eq_false g
            exact ⟨c', rfl, by omega⟩
        · exact k a' ha c hc
      | true =>
        rw [relax_yes hs g] at h'
        exact absurd h' (mono bs _ (fun z => nomatch z))
end

/-! ### how many nodes have their least number -/
def fin (D : Nat → Int) (d : Nat → Option Int) (v : Nat) : Bool := decide (d v = some (D v))
def cnt (n : Nat) (P : Nat → Bool) : Nat := match n with
  | 0 => 0
  | m + 1 => cnt m P + (if P m = true then 1 else 0)
theorem cnt_le (P : Nat → Bool) : ∀ n, cnt n P ≤ n
  | 0 => Nat.le_refl 0
  | n + 1 => by
    have := cnt_le P n
    unfold cnt
    split <;> omega
theorem cnt_mono {P P' : Nat → Bool} (h : ∀ v, P v = true → P' v = true) : ∀ n, cnt n P ≤ cnt n P'
  | 0 => Nat.le_refl 0
  | n + 1 => by
    have := cnt_mono h n
    unfold cnt
    by_cases e : P n = true
    · rw [if_pos e, if_pos (h n e)]
      omega
    · rw [if_neg e]
      split <;> omega
theorem cnt_lt {P P' : Nat → Bool} (h : ∀ v, P v = true → P' v = true) {u : Nat} (h1 : P u = false) (h2 : P' u = true) : ∀ n, u < n → cnt n P < cnt n P'
  | 0, z => by omega
  | n + 1, hu => by
    unfold cnt
    by_cases e : u = n
    · subst e
      rw [h1, h2, if_neg Bool.false_ne_true, if_pos rfl]
      have := cnt_mono h u
      omega
    · have := cnt_lt h h1 h2 n (by omega)
      by_cases q : P n = true
      · rw [if_pos q, if_pos (h n q)]
        omega
      · rw [if_neg q]
        split <;> omega
theorem cnt_full {P : Nat → Bool} : ∀ n, cnt n P = n → ∀ v, v < n → P v = true
  | 0, _, v, h => by omega
  | n + 1, h, v, hv => by
    unfold cnt at h
    have := cnt_le P n
    by_cases e : P n = true
    · rw [if_pos e] at h
      by_cases q : v = n
      · rw [q]
        exact e
      · exact cnt_full n (by omega) v (by omega)
    · rw [if_neg e] at h
      omega

/-- least numbers from b: a potential, each reached -/
structure Dist (n : Nat) (as : List Arc) (b : Nat) (D : Nat → Int) : Prop where
  at0 : D b = 0
  pot : Pot as D
  way : ∀ v, v < n → Walk as b v (D v)
  b_lt : b < n
  arcs : ∀ a ∈ as, a.s < n ∧ a.e < n

theorem Closed.dist {n : Nat} {as : List Arc} {T : Tb} (h : Closed n as T) (hn : ∀ a ∈ as, a.s < n ∧ a.e < n) {b : Nat} (hb : b < n) (hr : ∀ j, j < n → Reach as b j) : Dist n as b (Kw.rowPot T b) := by
  refine ⟨?_, h.rowPot hn hr, fun v hv => ?_, hb, hn⟩
  · show (T b b).getD 0 = 0
    rw [h.diag b]
    rfl
  · obtain ⟨c, w⟩ := hr v hv
    obtain ⟨c', e, _⟩ := h.known hn w
    show Walk as b v ((T b v).getD 0)
    rw [e]
    exact h.real b v c' e

section
variable {n : Nat} {as : List Arc} {b : Nat} {D : Nat → Int} {S : BS}

/-- along a least walk from a finished node to one that is not, some arc leads from the finished to the others -/
theorem crossing (Z : Dist n as b D) {d : Nat → Option Int} {v : Nat} {c : Int} (w : Walk as b v c) (h0 : fin D d b = true) : c = D v → fin D d v = false → ∃ a ∈ as, fin D d a.s = true ∧ fin D d a.e = false ∧ D a.s + a.l = D a.e := by
  induction w with
  | nil =>
    intro _ h
    rw [h0] at h
    cases h
  | snoc a ha w ih =>
    intro hc hv
    rename_i c'
    have h1 := w.pot Z.pot
    have h2 := Z.pot a ha
    have h3 := Z.at0
    have e : c' = D a.s := by omega
    cases q : fin D d a.s with
    | false => exact ih e q
    | true => exact ⟨a, ha, q, hv, by omega⟩

theorem fin_fold (Z : Dist n as b D) (bs : List Arc) (hs : ∀ a ∈ bs, a ∈ as) : ∀ S : BS, BI as D b S → ∀ v, fin D S.d v = true → fin D (bs.foldl relax S).d v = true := by
  intro S I v h
  have h1 : S.d v = some (D v) := of_decide_eq_true h
  obtain ⟨c, e, l⟩ := fold_le bs S v _ h1
  have J := fold_ok Z.pot bs S hs I
  have := (J.real v c e).pot Z.pot
  have h3 := Z.at0
  refine decide_eq_true ?_
  rw [e]
  congr 1
  omega
theorem fold_fin (Z : Dist n as b D) : ∀ (bs : List Arc), (∀ a ∈ bs, a ∈ as) → ∀ S : BS, BI as D b S → ∀ a ∈ bs, fin D S.d a.s = true → D a.s + a.l = D a.e → fin D (bs.foldl relax S).d a.e = true
  | [], _, _, _, a, h, _, _ => nomatch h
  | a' :: bs, hs, S, I, a, ha, h1, h2 => by
    have J := relax_ok Z.pot I (hs a' List.mem_cons_self)
    have hs' : ∀ a ∈ bs, a ∈ as := fun a h => hs a (List.mem_cons_of_mem _ h)
    rcases List.mem_cons.mp ha with rfl | ha
    · have e1 : S.d a.s = some (D a.s) := of_decide_eq_true h1
      have e2 : Le ((relax S a).d a.e) (D a.s + a.l) := by
        cases g : better (S.d a.e) (D a.s + a.l) with
        | false =>
          rw [relax_no e1 g]
          cases e : S.d a.e with
          | none =>
            rw [e] at g
            cases g
          | some c' =>
            rw [e] at g
            have := of_decide_eq_false g
            exact ⟨c', rfl, by omega⟩
        | true =>
          rw [relax_yes e1 g]
          show Le (put S.d a.e (some (D a.s + a.l)) a.e) _
          rw [put_same]
          exact Le.of
      obtain ⟨c, e3, l⟩ := e2
      have := (J.real _ c e3).pot Z.pot
      have h3 := Z.at0
      refine fin_fold Z bs hs' (relax S a) J a.e (decide_eq_true ?_)
      rw [e3]
      congr 1
      omega
    · refine fold_fin Z bs hs' (relax S a') J a ha ?_ h2
      have := fin_fold Z [a'] (fun z hz => by rw [List.mem_singleton.mp hz]; exact hs a' List.mem_cons_self) S I a.s h1
      exact this

theorem round_cnt (Z : Dist n as b D) (I : BI as D b S) (h : cnt n (fin D S.d) < n) : cnt n (fin D S.d) < cnt n (fin D (round as S).d) := by
  have ex : ∃ u, u < n ∧ fin D S.d u = false := by
    refine Classical.byContradiction fun no => ?_
    have all : ∀ m, m ≤ n → cnt m (fin D S.d) = m := by
      intro m
      induction m with
      | zero => exact fun _ => rfl
      | succ m ih =>
        intro hm
        unfold cnt
        rw [ih (by omega)]
        cases q : fin D S.d m with
        | false => exact absurd ⟨m, by omega, q⟩ no
        | true => rw [if_pos rfl]
    have := all n (Nat.le_refl n)
    omega
  obtain ⟨u, hu, hf⟩ := ex
  have hb : fin D S.d b = true := decide_eq_true (by rw [I.start, Z.at0])
  obtain ⟨a, ha, h1, h2, h3⟩ := crossing Z (Z.way u hu) hb rfl hf
  refine cnt_lt (u := a.e) (fun v hv => fin_fold Z as (fun _ h => h) _ (I.im none) v hv) h2 (fold_fin Z as (fun _ h => h) _ (I.im none) a ha h1 h3) n (Z.arcs a ha).2

theorem rounds_fin (Z : Dist n as b D) : ∀ (k : Nat) (S : BS), BI as D b S → n ≤ cnt n (fin D S.d) + k → ∀ v, v < n → (rounds as k S).d v = some (D v)
  | 0, S, I, h => fun v hv => by
    have := cnt_le (fin D S.d) n
    exact of_decide_eq_true (cnt_full (P := fin D S.d) n (by omega) v hv)
  | k + 1, S, I, h => fun v hv => by
    have J := round_ok Z.pot I
    by_cases q : cnt n (fin D S.d) < n
    · have lt := round_cnt Z I q
      unfold rounds
      split
      · rename_i hn
        obtain ⟨e, _⟩ := fold_still as { S with im := none } rfl hn
        have e' : round as S = { S with im := none } := e
        rw [e'] at lt
        exact absurd lt (Nat.lt_irrefl _)
      · exact rounds_fin Z k _ J (by omega) v hv
    · have full : cnt n (fin D S.d) = n := by
        have := cnt_le (fin D S.d) n
        omega
      have f1 : ∀ u, fin D S.d u = true → fin D (round as S).d u = true := fun u hu => fin_fold Z as (fun _ h => h) _ (I.im none) u hu
      unfold rounds
      split
      · exact of_decide_eq_true (f1 v (cnt_full n full v hv))
      · refine rounds_fin Z k _ J ?_ v hv
        have := cnt_mono f1 n
        omega
end

/-- the start of the rounds -/
def bs0 (b : Nat) : BS := ⟨put (fun _ => none) b (some 0), fun _ => none, none⟩
theorem bs0_ok {as : List Arc} {x : Nat → Int} {b : Nat} : BI as x b (bs0 b) := by
  refine ⟨(put_same : put (fun _ => (none : Option Int)) b (some 0) b = some 0), fun v c e => ?_, (fun v a e => nomatch e), rfl, fun v c e => ?_⟩
  · have e' : put (fun _ => (none : Option Int)) b (some 0) v = some c := e
    by_cases q : v = b
    · subst q
      rw [put_same] at e'
      cases e'
      exact Walk.nil _
    · rw [put_ne q] at e'
      cases e'
  · have e' : put (fun _ => (none : Option Int)) b (some 0) v = some c := e
    by_cases q : v = b
    · rw [q]
      exact Anc.refl
    · rw [put_ne q] at e'
      cases e'

theorem walk_fin {n : Nat} {as : List Arc} {b : Nat} {D : Nat → Int} (Z : Dist n as b D) : (∀ v, v < n → (rounds as n (bs0 b)).d v = some (D v)) ∧ BI as D b (rounds as n (bs0 b)) :=
  ⟨fun v hv => rounds_fin Z n _ bs0_ok (by omega) v hv, rounds_ok Z.pot n _ bs0_ok⟩

/-! ### the way back along last arcs -/
inductive Chain (L : Nat → Option Arc) (b : Nat) : Nat → List Arc → Prop
  | nil : Chain L b b []
  | cons {w : Nat} {p : List Arc} (a : Arc) : w ≠ b → L w = some a → Chain L b a.s p → Chain L b w (a :: p)

section
variable {L : Nat → Option Arc} {b : Nat}
theorem Anc.chain {w : Nat} (h : Anc L b w) : ∃ p, Chain L b w p := by
  induction h with
  | refl => exact ⟨[], Chain.nil⟩
  | step a hl _ ih =>
    rename_i w' _
    by_cases e : w' = b
    · rw [e]
      exact ⟨[], Chain.nil⟩
    · obtain ⟨p, hp⟩ := ih
      exact ⟨a :: p, Chain.cons a e hl hp⟩
theorem Chain.uniq {w : Nat} {p q : List Arc} (h : Chain L b w p) : Chain L b w q → p = q := by
  induction h generalizing q with
  | nil =>
    intro g
    cases g with
    | nil => rfl
    | cons a h1 _ _ => exact absurd rfl h1
  | cons a h1 h2 _ ih =>
    intro g
    cases g with
    | nil => exact absurd rfl h1
    | cons a' _ h2' g' =>
      rw [h2] at h2'
      cases h2'
      rw [ih g']
/-- a node further on has a shorter chain -/
theorem Chain.sub {w : Nat} {p : List Arc} (h : Chain L b w p) : ∀ u ∈ p.map (·.s), ∃ q, Chain L b u q ∧ q.length < p.length := by
  induction h with
  | nil => exact fun u hu => nomatch hu
  | cons a h1 h2 g ih =>
    intro u hu
    rcases List.mem_cons.mp hu with e | hu
    · rw [e]
      exact ⟨_, g, Nat.lt_succ_self _⟩
    · obtain ⟨q, hq, hl⟩ := ih u hu
      exact ⟨q, hq, by rw [List.length_cons]; omega⟩
theorem Chain.nodup {w : Nat} {p : List Arc} (h : Chain L b w p) : (w :: p.map (·.s)).Nodup := by
  induction h with
  | nil => exact List.nodup_cons.mpr ⟨(fun z => nomatch z), List.nodup_nil⟩
  | cons a h1 h2 g ih =>
    refine List.nodup_cons.mpr (And.intro (fun hm => ?_) ih)
    obtain ⟨q, hq, hl⟩ := (Chain.cons a h1 h2 g).sub _ hm
    have := hq.uniq (Chain.cons a h1 h2 g)
    rw [this] at hl
    omega
end

theorem nodup_len : ∀ (n : Nat) (l : List Nat), l.Nodup → (∀ x ∈ l, x < n) → l.length ≤ n
  | 0, l, _, h => by
    cases l with
    | nil => exact Nat.le_refl 0
    | cons x _ => exact absurd (h x List.mem_cons_self) (by omega)
  | n + 1, l, nd, h => by
    by_cases m : n ∈ l
    · have nd' := nd.erase n
      have h' : ∀ x ∈ l.erase n, x < n := fun x hx => by
        have := (nd.mem_erase_iff).mp hx
        have := h x this.2
        omega
      have := nodup_len n (l.erase n) nd' h'
      rw [List.length_erase_of_mem m] at this
      have : 0 < l.length := List.length_pos_of_mem m
      omega
    · have := nodup_len n l nd fun x hx => by
        have := h x hx
        have : x ≠ n := fun e => m (by rw [← e]; exact hx)
        omega
      omega

/-- the loop that goes back: the links so far, the node -/
def back (L : Nat → Option Arc) (b : Nat) : Nat → List Arc × Nat → List Arc × Nat
  | 0, s => s
  | k + 1, (p, w) => back L b k (if w ≠ b then match L w with
    | some a => (p ++ [a], a.s)
    | none => (p, w) else (p, w))
theorem back_ok {L : Nat → Option Arc} {b : Nat} {w : Nat} {q : List Arc} (h : Chain L b w q) : ∀ (k : Nat) (p : List Arc), q.length ≤ k → back L b k (p, w) = (p ++ q, b) := by
  induction h with
  | nil =>
    intro k
    induction k with
    | zero =>
      intro p _
      unfold back
      rw [List.append_nil]
    | succ k ih =>
      intro p _
      unfold back
      rw [if_neg (fun z => z rfl)]
      exact ih p (Nat.zero_le _)
  | cons a h1 h2 g ih =>
    intro k p hk
    cases k with
    | zero => cases hk
    | succ k =>
      unfold back
      rw [if_pos h1, h2]
      dsimp only
      rw [ih k (p ++ [a]) (by rw [List.length_cons] at hk; omega), List.append_assoc]
      rfl

/-- arcs one behind the other -/
inductive Path : Nat → List Arc → Nat → Prop
  | nil (i : Nat) : Path i [] i
  | cons {j : Nat} {p : List Arc} (a : Arc) : Path a.e p j → Path a.s (a :: p) j
theorem Path.snoc {i j : Nat} {p : List Arc} (h : Path i p j) {a : Arc} (e : a.s = j) : Path i (p ++ [a]) a.e := by
  induction h with
  | nil =>
    rw [← e]
    exact Path.cons a (Path.nil _)
  | cons a' _ ih => exact Path.cons a' (ih e)

/-- what walk_of hands back -/
structure Way (n : Nat) (as : List Arc) (b g : Nat) (D : Nat → Int) (p : List Arc) : Prop where
  path : Path b p g
  mem : ∀ a ∈ p, a ∈ as
  tight : ∀ a ∈ p, D a.e = D a.s + a.l
  nodup : (p.map (·.s)).Nodup
  ends : g ∉ p.map (·.s)
  pot : Pot as D
  at0 : D b = 0

theorem chain_way {n : Nat} {as : List Arc} {b : Nat} {D : Nat → Int} (Z : Dist n as b D) {S : BS} (I : BI as D b S) (hd : ∀ v, v < n → S.d v = some (D v)) {w : Nat} {p : List Arc} (h : Chain S.L b w p) (hw : w < n) :
    Way n as b w D p.reverse ∧ p.length < n := by
  have tight : ∀ v a, S.L v = some a → a ∈ as ∧ a.e = v ∧ D v = D a.s + a.l := fun v a e => by
    obtain ⟨h1, h2, c, c', h3, h4, h5⟩ := I.last v a e
    refine ⟨h1, h2, ?_⟩
    have k1 := Z.pot a h1
    have k2 := hd _ (Z.arcs a h1).1
    have k3 := hd _ (Z.arcs a h1).2
    rw [h3] at k2
    rw [h2, h4] at k3
    cases k2
    cases k3
    rw [h2] at k1
    omega
  have all : Path b p.reverse w ∧ (∀ a ∈ p, a ∈ as ∧ D a.e = D a.s + a.l) := by
    induction h with
    | nil => exact ⟨Path.nil _, fun a h => nomatch h⟩
    | cons a h1 h2 g ih =>
      obtain ⟨t1, t2, t3⟩ := tight _ a h2
      obtain ⟨i1, i2⟩ := ih (Z.arcs a t1).1
      refine ⟨?_, fun a' ha => ?_⟩
      · rw [List.reverse_cons]
        have := i1.snoc (a := a) rfl
        rw [t2] at this
        exact this
      · rcases List.mem_cons.mp ha with rfl | ha
        · exact ⟨t1, by rw [t2]; exact t3⟩
        · exact i2 a' ha
  have nd := h.nodup
  have nd' := List.nodup_cons.mp nd
  have lt : ∀ x ∈ w :: p.map (·.s), x < n := fun x hx => by
    rcases List.mem_cons.mp hx with rfl | hx
    · exact hw
    · obtain ⟨a, ha, rfl⟩ := List.mem_map.mp hx
      exact (Z.arcs a (all.2 a ha).1).1
  have len := nodup_len n _ nd lt
  rw [List.length_cons, List.length_map] at len
  refine ⟨⟨all.1, fun a ha => (all.2 a (List.mem_reverse.mp ha)).1, fun a ha => (all.2 a (List.mem_reverse.mp ha)).2, ?_, ?_, Z.pot, Z.at0⟩, by omega⟩
  · rw [List.map_reverse]
    exact List.pairwise_reverse.mpr (nd'.2.imp fun h => h.symm)
  · rw [List.map_reverse]
    exact fun z => nd'.1 (List.mem_reverse.mp z)
end Kw

/-! Rows with flows: what is left, pushing along shortest ways, the gap. -/
namespace Kw

structure Row where
  f : Nat
  s : Nat
  lo : Option Int
  hi : Option Int
  rm : Option Int

def ngo (o : Option Int) : Option Int := match o with
  | none => none
  | some b => some (-b)
def raising (lo hi rm : Option Int) (x : Int) : Option (Int × Option Int) :=
  if x < 0 then (match lo with
    | some a => some (a, some (-x))
    | none => none)
  else match hi with
    | none => none
    | some h => match rm with
      | none => some (h, none)
      | some w => if w ≤ x then none else some (h, some (w - x))
def chg (r : Row) (x sg : Int) : Option (Int × Option Int) := if sg = 1 then raising r.lo r.hi r.rm x else raising (ngo r.hi) (ngo r.lo) r.rm (-x)

def arc1 (r : Row) (i : Nat) (x sg : Int) : List Arc := match chg r x sg with
  | some (l, _) => [if sg = 1 then ⟨r.f, r.s, l, i, 1⟩ else ⟨r.s, r.f, l, i, -1⟩]
  | none => []
def lArcs (R : Nat → Row) (F : Nat → Int) : Nat → List Arc
  | 0 => []
  | k + 1 => lArcs R F k ++ (arc1 (R k) k (F k) 1 ++ arc1 (R k) k (F k) (-1))

structure RowPot (r : Row) (x d : Int) : Prop where
  up : ∀ l u, chg r x 1 = some (l, u) → d ≤ l
  dn : ∀ l u, chg r x (-1) = some (l, u) → -d ≤ l
structure RowOk (r : Row) : Prop where
  le : ∀ a b, r.lo = some a → r.hi = some b → a ≤ b
  rm : ∀ w, r.rm = some w → 1 ≤ w
structure FlowOk (r : Row) (x : Int) : Prop where
  lo : x < 0 → r.lo ≠ none
  hi : 0 < x → r.hi ≠ none
  rm : ∀ w, r.rm = some w → -w ≤ x ∧ x ≤ w

abbrev dif (π : Nat → Int) (r : Row) : Int := π r.s - π r.f

/-! ### arcs of what is left -/
theorem mem_arc1 {r : Row} {i : Nat} {x sg : Int} (hs : sg = 1 ∨ sg = -1) {a : Arc} (h : a ∈ arc1 r i x sg) :
    a.ix = i ∧ a.sg = sg ∧ (∃ u, chg r x sg = some (a.l, u)) ∧ ((sg = 1 ∧ a.s = r.f ∧ a.e = r.s) ∨ (sg = -1 ∧ a.s = r.s ∧ a.e = r.f)) := by
  unfold arc1 at h
  split at h
  · rename_i l u e
    have h' := List.mem_singleton.mp h
    rcases hs with rfl | rfl
    · rw [if_pos rfl] at h'
      subst h'
      exact ⟨rfl, rfl, ⟨u, e⟩, .inl ⟨rfl, rfl, rfl⟩⟩
    · rw [if_neg (by decide)] at h'
      subst h'
      exact ⟨rfl, rfl, ⟨u, e⟩, .inr ⟨rfl, rfl, rfl⟩⟩
  · cases h
theorem mem_lArcs {R : Nat → Row} {F : Nat → Int} {a : Arc} : ∀ {k : Nat}, a ∈ lArcs R F k → a.ix < k ∧ (a.sg = 1 ∨ a.sg = -1) ∧ (∃ u, chg (R a.ix) (F a.ix) a.sg = some (a.l, u)) ∧
    ((a.sg = 1 ∧ a.s = (R a.ix).f ∧ a.e = (R a.ix).s) ∨ (a.sg = -1 ∧ a.s = (R a.ix).s ∧ a.e = (R a.ix).f))
  | 0, h => nomatch h
  | k + 1, h => by
    unfold lArcs at h
    rcases List.mem_append.mp h with h | h
    · obtain ⟨h1, h2⟩ := mem_lArcs h
      exact ⟨by omega, h2⟩
    · rcases List.mem_append.mp h with h | h
      · obtain ⟨h1, h2, h3, h4⟩ := mem_arc1 (.inl rfl) h
        rw [h1, h2]
        exact ⟨by omega, .inl rfl, h3, h4⟩
      · obtain ⟨h1, h2, h3, h4⟩ := mem_arc1 (.inr rfl) h
        rw [h1, h2]
        exact ⟨by omega, .inr rfl, h3, h4⟩
theorem arc1_has {r : Row} {i : Nat} {x sg l : Int} {u : Option Int} (h : chg r x sg = some (l, u)) : (if sg = 1 then ⟨r.f, r.s, l, i, 1⟩ else ⟨r.s, r.f, l, i, -1⟩ : Arc) ∈ arc1 r i x sg := by
  unfold arc1
  rw [h]
  exact List.mem_singleton.mpr rfl
theorem lArcs_has {R : Nat → Row} {F : Nat → Int} {i : Nat} : ∀ {k : Nat}, i < k → (∀ a ∈ arc1 (R i) i (F i) 1, a ∈ lArcs R F k) ∧ (∀ a ∈ arc1 (R i) i (F i) (-1), a ∈ lArcs R F k)
  | 0, h => absurd h (Nat.not_lt_zero _)
  | k + 1, h => by
    unfold lArcs
    by_cases e : i = k
    · subst e
      exact ⟨fun a ha => List.mem_append.mpr (.inr (List.mem_append.mpr (.inl ha))), fun a ha => List.mem_append.mpr (.inr (List.mem_append.mpr (.inr ha)))⟩
    · obtain ⟨h1, h2⟩ := lArcs_has (R := R) (F := F) (k := k) (i := i) (by omega)
      exact ⟨fun a ha => List.mem_append.mpr (.inl (h1 a ha)), fun a ha => List.mem_append.mpr (.inl (h2 a ha))⟩
theorem pot_iff {R : Nat → Row} {F : Nat → Int} {k : Nat} {π : Nat → Int} : Pot (lArcs R F k) π ↔ ∀ i, i < k → RowPot (R i) (F i) (dif π (R i)) := by
  constructor
  · intro p i hi
    obtain ⟨h1, h2⟩ := lArcs_has (R := R) (F := F) hi
    refine ⟨fun l u e => ?_, fun l u e => ?_⟩
    · exact p _ (h1 _ (arc1_has e))
    · have := p _ (h2 _ (arc1_has e))
      have : π (R i).f - π (R i).s ≤ l := this
      show -(π (R i).s - π (R i).f) ≤ l
      omega
  · intro h a ha
    obtain ⟨h1, h2, ⟨u, h3⟩, h4⟩ := mem_lArcs ha
    have q := h a.ix h1
    rcases h4 with ⟨e, es, ee⟩ | ⟨e, es, ee⟩
    · rw [e] at h3
      have := q.up _ _ h3
      rw [es, ee]
      exact this
    · rw [e] at h3
      have := q.dn _ _ h3
      have : -(π (R a.ix).s - π (R a.ix).f) ≤ a.l := this
      rw [es, ee]
      omega
theorem lArcs_congr {R : Nat → Row} {F F' : Nat → Int} : ∀ {k : Nat}, (∀ i, i < k → F i = F' i) → lArcs R F k = lArcs R F' k
  | 0, _ => rfl
  | k + 1, h => by
    unfold lArcs
    rw [lArcs_congr (k := k) fun i hi => h i (by omega), h k (by omega)]

/-! ### one row -/
theorem chg_pos {r : Row} (o : RowOk r) {x : Int} (f : FlowOk r x) {sg l : Int} {u : Option Int} (h : chg r x sg = some (l, u)) : ∀ t, u = some t → 1 ≤ t := by
  intro t e
  subst e
  unfold chg raising at h
  obtain ⟨rf, rs, lo, hi, rm⟩ := r
  split at h
  · split at h
    · split at h
      · simp only [Option.some.injEq, Prod.mk.injEq] at h
        omega
      · cases h
    · split at h
      · cases h
      · split at h
        · simp at h
        · split at h
          · cases h
          · simp only [Option.some.injEq, Prod.mk.injEq] at h
            omega
  · split at h
    · split at h
      · simp only [Option.some.injEq, Prod.mk.injEq] at h
        omega
      · cases h
    · split at h
      · cases h
      · split at h
        · simp at h
        · split at h
          · cases h
          · simp only [Option.some.injEq, Prod.mk.injEq] at h
            omega

theorem chg_up {r : Row} {x : Int} : chg r x 1 = raising r.lo r.hi r.rm x := by
  unfold chg
  rw [if_pos rfl]
theorem chg_dn {r : Row} {x : Int} : chg r x (-1) = raising (ngo r.hi) (ngo r.lo) r.rm (-x) := by
  unfold chg
  rw [if_neg (by decide)]
theorem raise_neg {lo hi rm : Option Int} {x : Int} (h : x < 0) : raising lo hi rm x = match lo with
    | some a => some (a, some (-x))
    | none => none := by
  unfold raising
  rw [if_pos h]
theorem raise_pos {lo hi rm : Option Int} {x : Int} (h : ¬ x < 0) : raising lo hi rm x = match hi with
    | none => none
    | some h => match rm with
      | none => some (h, none)
      | some w => if w ≤ x then none else some (h, some (w - x)) := by
  unfold raising
  rw [if_neg h]
/-- the length of a raise -/
theorem raise_len {lo hi rm : Option Int} {x l : Int} {u : Option Int} (h : raising lo hi rm x = some (l, u)) : (x < 0 ∧ lo = some l ∧ u = some (-x)) ∨ (0 ≤ x ∧ hi = some l ∧ (rm = none ∧ u = none ∨ ∃ w, rm = some w ∧ x < w ∧ u = some (w - x))) := by
  by_cases hx : x < 0
  · rw [raise_neg hx] at h
    cases lo with
    | none => cases h
    | some a =>
      cases h
      exact .inl ⟨hx, rfl, rfl⟩
  · rw [raise_pos hx] at h
    cases hi with
    | none => cases h
    | some b =>
      cases rm with
      | none =>
        cases h
        exact .inr ⟨by omega, rfl, .inl ⟨rfl, rfl⟩⟩
      | some w =>
        dsimp only at h
        split at h
        · cases h
        · cases h
          exact .inr ⟨by omega, rfl, .inr ⟨w, rfl, by omega, rfl⟩⟩
theorem ngo_some {o : Option Int} {l : Int} (h : ngo o = some l) : o = some (-l) := by
  cases o with
  | none => cases h
  | some b =>
    cases h
    rw [Int.neg_neg]
theorem ngo_none {o : Option Int} : ngo o = none ↔ o = none := by
  cases o with
  | none => exact ⟨fun _ => rfl, fun _ => rfl⟩
  | some b => exact ⟨(fun h => nomatch h), (fun h => nomatch h)⟩

/-- a tight row, moved along, is kept -/
theorem advance {r : Row} (o : RowOk r) {x : Int} (f : FlowOk r x) {sg : Int} (hs : sg = 1 ∨ sg = -1) {l : Int} {u : Option Int} (h : chg r x sg = some (l, u)) {t : Int} (ht : 1 ≤ t) (hu : ∀ v, u = some v → t ≤ v) {d : Int} (hd : sg * d = l) :
    RowPot r (x + sg * t) d ∧ FlowOk r (x + sg * t) := by
  rcases hs with rfl | rfl
  · rw [chg_up] at h
    have hd' : d = l := by omega
    subst hd'
    rw [Int.one_mul]
    rcases raise_len h with ⟨h1, h2, h3⟩ | ⟨h1, h2, h3⟩
    · have h4 := hu _ h3
      refine ⟨⟨fun l' u' e => ?_, fun l' u' e => ?_⟩, ⟨fun _ => by rw [h2]; exact Option.some_ne_none _, fun _ => by omega, fun w hw => ?_⟩⟩
      · rw [chg_up] at e
        rcases raise_len e with ⟨g1, g2, _⟩ | ⟨g1, g2, _⟩
        · rw [h2] at g2
          cases g2
          exact Int.le_refl _
        · exact o.le _ _ h2 g2
      · rw [chg_dn] at e
        rcases raise_len e with ⟨g1, g2, _⟩ | ⟨g1, g2, _⟩
        · omega
        · have := ngo_some g2
          rw [h2] at this
          have := Option.some.inj this
          omega
      · have := f.rm w hw
        omega
    · refine ⟨⟨fun l' u' e => ?_, fun l' u' e => ?_⟩, ⟨fun _ => by omega, fun _ => by rw [h2]; exact Option.some_ne_none _, fun w hw => ?_⟩⟩
      · rw [chg_up] at e
        rcases raise_len e with ⟨g1, g2, _⟩ | ⟨g1, g2, _⟩
        · omega
        · rw [h2] at g2
          cases g2
          exact Int.le_refl _
      · rw [chg_dn] at e
        rcases raise_len e with ⟨g1, g2, _⟩ | ⟨g1, g2, _⟩
        · have := ngo_some g2
          rw [h2] at this
          have := Option.some.inj this
          omega
        · omega
      · have := f.rm w hw
        rcases h3 with ⟨h3, _⟩ | ⟨w', h3, h4, h5⟩
        · rw [h3] at hw
          cases hw
        · rw [h3] at hw
          cases hw
          have := hu _ h5
          omega
  · rw [chg_dn] at h
    have hd' : d = -l := by omega
    subst hd'
    rw [show x + -1 * t = x - t by omega]
    rcases raise_len h with ⟨h1, h2, h3⟩ | ⟨h1, h2, h3⟩
    · have h4 := hu _ h3
      have h2' := ngo_some h2
      refine ⟨⟨fun l' u' e => ?_, fun l' u' e => ?_⟩, ⟨fun _ => by omega, fun _ => by rw [h2']; exact Option.some_ne_none _, fun w hw => ?_⟩⟩
      · rw [chg_up] at e
        rcases raise_len e with ⟨g1, g2, _⟩ | ⟨g1, g2, _⟩
        · omega
        · rw [h2'] at g2
          have := Option.some.inj g2
          omega
      · rw [chg_dn] at e
        rcases raise_len e with ⟨g1, g2, _⟩ | ⟨g1, g2, _⟩
        · rw [h2] at g2
          cases g2
          omega
        · have g2' := ngo_some g2
          have := o.le _ _ g2' h2'
          omega
      · have := f.rm w hw
        omega
    · have h2' := ngo_some h2
      refine ⟨⟨fun l' u' e => ?_, fun l' u' e => ?_⟩, ⟨fun _ => by rw [h2']; exact Option.some_ne_none _, fun _ => by omega, fun w hw => ?_⟩⟩
      · rw [chg_up] at e
        rcases raise_len e with ⟨g1, g2, _⟩ | ⟨g1, g2, _⟩
        · rw [h2'] at g2
          have := Option.some.inj g2
          omega
        · omega
      · rw [chg_dn] at e
        rcases raise_len e with ⟨g1, g2, _⟩ | ⟨g1, g2, _⟩
        · omega
        · rw [h2] at g2
          cases g2
          omega
      · have := f.rm w hw
        rcases h3 with ⟨h3, _⟩ | ⟨w', h3, h4, h5⟩
        · rw [h3] at hw
          cases hw
        · rw [h3] at hw
          cases hw
          have := hu _ h5
          omega

/-- a row with a flow of its direction: back it is as long as forth -/
theorem chg_back {r : Row} {x : Int} {sg : Int} (hs : sg = 1 ∨ sg = -1) (hx : 0 < sg * x) {c l : Int} {u v : Option Int} (h : chg r x sg = some (c, u)) (g : chg r x (-sg) = some (l, v)) : l = -c := by
  rcases hs with rfl | rfl
  · rw [chg_up] at h
    rw [chg_dn] at g
    rcases raise_len h with ⟨h1, h2, h3⟩ | ⟨h1, h2, h3⟩
    · omega
    · rcases raise_len g with ⟨g1, g2, g3⟩ | ⟨g1, g2, g3⟩
      · have := ngo_some g2
        rw [h2] at this
        have := Option.some.inj this
        omega
      · omega
  · rw [chg_dn] at h
    rw [show -(-1 : Int) = 1 by decide, chg_up] at g
    rcases raise_len h with ⟨h1, h2, h3⟩ | ⟨h1, h2, h3⟩
    · omega
    · rcases raise_len g with ⟨g1, g2, g3⟩ | ⟨g1, g2, g3⟩
      · have := ngo_some h2
        rw [g2] at this
        have := Option.some.inj this
        omega
      · omega

/-! ### between two potentials -/
theorem Pot.shift {as : List Arc} {x : Nat → Int} (p : Pot as x) (c : Int) : Pot as fun i => x i + c := fun a ha => by
  have := p a ha
  show x a.e + c - (x a.s + c) ≤ a.l
  omega
theorem Pot.min {as : List Arc} {x y : Nat → Int} (p : Pot as x) (q : Pot as y) : Pot as fun i => if x i ≤ y i then x i else y i := fun a ha => by
  have h1 := p a ha
  have h2 := q a ha
  show (if x a.e ≤ y a.e then x a.e else y a.e) - (if x a.s ≤ y a.s then x a.s else y a.s) ≤ a.l
  split <;> split <;> omega
/-- each difference between those of two potentials is one of a potential -/
theorem Pot.mid {as : List Arc} {x y : Nat → Int} (p : Pot as x) (q : Pot as y) (i j : Nat) {c : Int} (h1 : x j - x i ≤ c) (h2 : c ≤ y j - y i) : ∃ z, Pot as z ∧ z j - z i = c := by
  -- z = the lesser of y and x + (c + y i - x j)
  refine ⟨_, q.min (p.shift (c + y i - x j)), ?_⟩
  show (if y j ≤ x j + (c + y i - x j) then y j else x j + (c + y i - x j)) - (if y i ≤ x i + (c + y i - x j) then y i else x i + (c + y i - x j)) = c
  split <;> split <;> omega

/-! ### sums -/
def sm : Nat → (Nat → Int) → Int
  | 0, _ => 0
  | n + 1, f => sm n f + f n
theorem sm_congr {f g : Nat → Int} : ∀ {n : Nat}, (∀ i, i < n → f i = g i) → sm n f = sm n g
  | 0, _ => rfl
  | n + 1, h => by
    unfold sm
    rw [sm_congr (n := n) fun i hi => h i (by omega), h n (by omega)]
theorem sm_le {f g : Nat → Int} : ∀ {n : Nat}, (∀ i, i < n → f i ≤ g i) → sm n f ≤ sm n g
  | 0, _ => Int.le_refl _
  | n + 1, h => by
    unfold sm
    have := sm_le (n := n) fun i hi => h i (by omega)
    have := h n (by omega)
    omega
theorem sm_tight {f g : Nat → Int} : ∀ {n : Nat}, (∀ i, i < n → f i ≤ g i) → sm n f = sm n g → ∀ i, i < n → f i = g i
  | 0, _, _, i, h => absurd h (Nat.not_lt_zero _)
  | n + 1, h, e, i, hi => by
    unfold sm at e
    have h1 := sm_le (n := n) fun i hi => h i (by omega)
    have h2 := h n (by omega)
    by_cases q : i = n
    · subst q
      omega
    · exact sm_tight (n := n) (fun i hi => h i (by omega)) (by omega) i (by omega)
theorem sm_add {f g : Nat → Int} : ∀ {n : Nat}, sm n (fun i => f i + g i) = sm n f + sm n g
  | 0 => rfl
  | n + 1 => by
    unfold sm
    rw [sm_add]
    dsimp only
    omega
theorem sm_put {f : Nat → Int} {j : Nat} {v : Int} {h : Nat → Int} : ∀ {n : Nat}, j < n → sm n (fun i => put f j v i * h i) = sm n (fun i => f i * h i) + (v - f j) * h j
  | 0, z => absurd z (Nat.not_lt_zero _)
  | n + 1, z => by
    by_cases e : j = n
    · subst e
      have e1 : sm j (fun i => put f j v i * h i) = sm j (fun i => f i * h i) := sm_congr fun i hi => by rw [put_ne (by omega)]
      show sm j (fun i => put f j v i * h i) + put f j v j * h j = sm j (fun i => f i * h i) + f j * h j + (v - f j) * h j
      rw [put_same, e1, Int.sub_mul]
      omega
    · show sm n (fun i => put f j v i * h i) + put f j v n * h n = sm n (fun i => f i * h i) + f n * h n + (v - f j) * h j
      rw [sm_put (n := n) (by omega), put_ne (by omega)]
      omega

/-! ### sending along a way -/
def send (t : Int) : List Arc → (Nat → Int) → Nat → Int
  | [], F => F
  | a :: p, F => send t p (put F a.ix (F a.ix + a.sg * t))
theorem send_off {t : Int} : ∀ {p : List Arc} {F : Nat → Int} {i : Nat}, i ∉ p.map (·.ix) → send t p F i = F i
  | [], _, _, _ => rfl
  | a :: p, F, i, h => by
    unfold send
    rw [send_off fun z => h (List.mem_cons_of_mem _ z), put_ne fun z => h (by rw [z]; exact List.mem_cons_self)]
theorem send_on {t : Int} : ∀ {p : List Arc} {F : Nat → Int}, (p.map (·.ix)).Nodup → ∀ a ∈ p, send t p F a.ix = F a.ix + a.sg * t
  | [], _, _, a, h => nomatch h
  | b :: p, F, nd, a, h => by
    have nd' := List.nodup_cons.mp nd
    unfold send
    rcases List.mem_cons.mp h with rfl | h
    · rw [send_off nd'.1, put_same]
    · rw [send_on nd'.2 a h, put_ne]
      intro e
      exact nd'.1 (by show b.ix ∈ _; rw [← e]; exact List.mem_map.mpr ⟨a, h, rfl⟩)

theorem Path.head {i j : Nat} {p : List Arc} (h : Path i p j) : i = j ∨ i ∈ p.map (·.s) := by
  cases h with
  | nil => exact .inl rfl
  | cons a g => exact .inr List.mem_cons_self
theorem Path.ends {i j : Nat} {p : List Arc} (h : Path i p j) : ∀ b ∈ p, b.e = j ∨ b.e ∈ p.map (·.s) := by
  induction h with
  | nil => exact fun b hb => nomatch hb
  | cons a g ih =>
    intro b hb
    rcases List.mem_cons.mp hb with rfl | hb
    · rcases g.head with e | e
      · exact .inl e
      · exact .inr (List.mem_cons_of_mem _ e)
    · rcases ih b hb with e | e
      · exact .inl e
      · exact .inr (List.mem_cons_of_mem _ e)
theorem way_ix {R : Nat → Row} {F : Nat → Int} {k : Nat} {i j : Nat} {p : List Arc} (h : Path i p j) : (∀ a ∈ p, a ∈ lArcs R F k) → (p.map (·.s)).Nodup → j ∉ p.map (·.s) → (p.map (·.ix)).Nodup := by
  induction h with
  | nil => exact fun _ _ _ => List.nodup_nil
  | cons a g ih =>
    intro hm nd hj
    have nd' := List.nodup_cons.mp nd
    refine List.nodup_cons.mpr (And.intro (fun hx => ?_) (ih (fun b hb => hm b (List.mem_cons_of_mem _ hb)) nd'.2 fun z => hj (List.mem_cons_of_mem _ z)))
    obtain ⟨b, hb, e⟩ := List.mem_map.mp hx
    have e' : b.ix = a.ix := e
    obtain ⟨_, _, _, ha⟩ := mem_lArcs (hm a List.mem_cons_self)
    obtain ⟨_, _, _, hb'⟩ := mem_lArcs (hm b (List.mem_cons_of_mem _ hb))
    rw [e'] at hb'
    have n1 : b.s ≠ a.s := fun z => nd'.1 (by show a.s ∈ _; rw [← z]; exact List.mem_map.mpr ⟨b, hb, rfl⟩)
    have n2 : b.e ≠ a.s := fun z => by
      rcases g.ends b hb with q | q
      · exact hj (by rw [← q, z]; exact List.mem_cons_self)
      · exact nd'.1 (by show a.s ∈ _; rw [← z]; exact q)
    rcases ha with ⟨_, h1, h2⟩ | ⟨_, h1, h2⟩ <;> rcases hb' with ⟨_, h3, h4⟩ | ⟨_, h3, h4⟩ <;> omega

theorem send_sum {R : Nat → Row} {k : Nat} {t : Int} (x : Nat → Int) {i j : Nat} {p : List Arc} (h : Path i p j) : ∀ F F0 : Nat → Int, (∀ a ∈ p, a ∈ lArcs R F0 k) →
    sm k (fun m => send t p F m * dif x (R m)) = sm k (fun m => F m * dif x (R m)) + t * (x j - x i) := by
  induction h with
  | nil =>
    intro F F0 _
    show sm k (fun m => F m * dif x (R m)) = _
    rename_i i'
    rw [Int.sub_self, Int.mul_zero, Int.add_zero]
  | cons a g ih =>
    intro F F0 hm
    rename_i j' p'
    obtain ⟨h1, _, _, h4⟩ := mem_lArcs (hm a List.mem_cons_self)
    show sm k (fun m => send t p' (put F a.ix (F a.ix + a.sg * t)) m * dif x (R m)) = _
    rw [ih _ F0 fun b hb => hm b (List.mem_cons_of_mem _ hb)]
    rw [sm_put (h := fun m => dif x (R m)) h1]
    have e : (F a.ix + a.sg * t - F a.ix) * dif x (R a.ix) = t * (x a.e - x a.s) := by
      rcases h4 with ⟨e1, e2, e3⟩ | ⟨e1, e2, e3⟩
      · rw [e1, e2, e3, show F a.ix + 1 * t - F a.ix = t by omega]
      · rw [e1, e2, e3, show F a.ix + -1 * t - F a.ix = -t by omega, Int.neg_mul]
        show -(t * (x (R a.ix).s - x (R a.ix).f)) = _
        rw [← Int.mul_neg]
        congr 1
        omega
    rw [e]
    have : t * (x j' - x a.s) = t * (x j' - x a.e) + t * (x a.e - x a.s) := by
      rw [← Int.mul_add]
      congr 1
      omega
    omega

/-! ### units -/
def lesser (u o : Option Int) : Option Int := match u with
  | none => o
  | some a => match o with
    | none => some a
    | some b => some (if b < a then b else a)
def unitsOf (R : Nat → Row) (F : Nat → Int) : List Arc → Option Int → Option Int
  | [], u => u
  | a :: p, u => unitsOf R F p (lesser u ((chg (R a.ix) (F a.ix) a.sg).bind (·.2)))
theorem lesser_le {u o : Option Int} {t : Int} (h : lesser u o = some t) : (∀ a, u = some a → t ≤ a) ∧ (∀ b, o = some b → t ≤ b) ∧ ((∀ a, u = some a → 1 ≤ a) → (∀ b, o = some b → 1 ≤ b) → 1 ≤ t) := by
  cases u with
  | none =>
    have h' : o = some t := h
    subst h'
    refine ⟨(fun a e => nomatch e), fun b e => by cases e; exact Int.le_refl _, fun _ h => h t rfl⟩
  | some a =>
    cases o with
    | none =>
      cases h
      refine ⟨fun b e => by cases e; exact Int.le_refl _, (fun b e => nomatch e), fun h _ => h t rfl⟩
    | some b =>
      have h' : (if b < a then b else a) = t := Option.some.inj h
      refine ⟨fun z e => ?_, fun z e => ?_, fun h1 h2 => ?_⟩
      · cases e
        split at h' <;> omega
      · cases e
        split at h' <;> omega
      · have := h1 a rfl
        have := h2 b rfl
        split at h' <;> omega
theorem lesser_l {z : Int} {o : Option Int} : ∃ y, lesser (some z) o = some y := by
  cases o with
  | none => exact ⟨z, rfl⟩
  | some b => exact ⟨_, rfl⟩
theorem lesser_r {u : Option Int} {z : Int} : ∃ y, lesser u (some z) = some y := by
  cases u with
  | none => exact ⟨z, rfl⟩
  | some b => exact ⟨_, rfl⟩
theorem units_le {R : Nat → Row} {F : Nat → Int} : ∀ {p : List Arc} {u : Option Int} {o : Option Int} {t : Int}, lesser (unitsOf R F p u) o = some t →
    (∀ a, u = some a → t ≤ a) ∧ (∀ b, o = some b → t ≤ b) ∧ (∀ a ∈ p, ∀ l v, chg (R a.ix) (F a.ix) a.sg = some (l, some v) → t ≤ v)
  | [], u, o, t, h => ⟨(lesser_le h).1, (lesser_le h).2.1, fun a ha => nomatch ha⟩
  | a :: p, u, o, t, h => by
    obtain ⟨h1, h2, h3⟩ := units_le (p := p) (u := lesser u ((chg (R a.ix) (F a.ix) a.sg).bind (·.2))) h
    refine ⟨fun z e => ?_, h2, fun b hb l v e => ?_⟩
    · subst e
      obtain ⟨y, q⟩ := lesser_l (z := z) (o := (chg (R a.ix) (F a.ix) a.sg).bind (·.2))
      have := (lesser_le q).1 z rfl
      have := h1 y q
      omega
    · rcases List.mem_cons.mp hb with rfl | hb
      · have e2 : ((chg (R b.ix) (F b.ix) b.sg).bind (·.2)) = some v := by rw [e]; rfl
        obtain ⟨y, q⟩ := lesser_r (u := u) (z := v)
        rw [← e2] at q
        have := (lesser_le q).2.1 v e2
        have := h1 y q
        omega
      · exact h3 b hb l v e
theorem units_pos {R : Nat → Row} {F : Nat → Int} : ∀ {p : List Arc} {u : Option Int}, (∀ a, u = some a → 1 ≤ a) → (∀ a ∈ p, ∀ l v, chg (R a.ix) (F a.ix) a.sg = some (l, some v) → 1 ≤ v) → ∀ t, unitsOf R F p u = some t → 1 ≤ t
  | [], u, hu, _, t, h => hu t h
  | a :: p, u, hu, hp, t, h => by
    refine units_pos (p := p) (fun y e => ?_) (fun b hb => hp b (List.mem_cons_of_mem _ hb)) t h
    refine (lesser_le e).2.2 hu fun b eb => ?_
    cases q : chg (R a.ix) (F a.ix) a.sg with
    | none =>
      rw [q] at eb
      cases eb
    | some lv =>
      obtain ⟨l, v⟩ := lv
      rw [q] at eb
      have ev : v = some b := eb
      rw [ev] at q
      exact hp a List.mem_cons_self l b q
end Kw

/-! Pushing a row, ending, both directions; all rows; the gap: what is left are the worlds of least growth. -/
namespace Kw

def bg (r : Row) (sg : Int) : Nat := if sg = -1 then r.f else r.s
def gl (r : Row) (sg : Int) : Nat := if sg = -1 then r.s else r.f
theorem bg_up {r : Row} : bg r 1 = r.s := by
  unfold bg
  rw [if_neg (by decide)]
theorem gl_up {r : Row} : gl r 1 = r.f := by
  unfold gl
  rw [if_neg (by decide)]
theorem bg_dn {r : Row} : bg r (-1) = r.f := by
  unfold bg
  rw [if_pos rfl]
theorem gl_dn {r : Row} : gl r (-1) = r.s := by
  unfold gl
  rw [if_pos rfl]
theorem bg_dif {r : Row} {sg : Int} (hs : sg = 1 ∨ sg = -1) (x : Nat → Int) : x (gl r sg) - x (bg r sg) = -(sg * dif x r) := by
  rcases hs with rfl | rfl
  · rw [bg_up, gl_up]
    show x r.f - x r.s = -(1 * (x r.s - x r.f))
    omega
  · rw [bg_dn, gl_dn]
    show x r.s - x r.f = -(-1 * (x r.s - x r.f))
    omega

structure PI (k : Nat) (R : Nat → Row) (r : Row) (sg : Int) (F0 F : Nat → Int) (own : Int) : Prop where
  fok : ∀ i, i < k → FlowOk (R i) (F i)
  ofok : FlowOk r own
  osg : 0 ≤ sg * own
  bal : ∀ x : Nat → Int, sm k (fun m => F m * dif x (R m)) + own * dif x r = 0
  pot : ∃ π, Pot (lArcs R F k) π ∧ (own ≠ 0 → ∀ l u, chg r own (-sg) = some (l, u) → -sg * dif π r ≤ l)
  same : own = 0 → ∀ i, i < k → F i = F0 i
structure PEnd (k : Nat) (R : Nat → Row) (r : Row) (sg : Int) (F0 F : Nat → Int) (own : Int) : Prop where
  fok : ∀ i, i < k → FlowOk (R i) (F i)
  ofok : FlowOk r own
  bal : ∀ x : Nat → Int, sm k (fun m => F m * dif x (R m)) + own * dif x r = 0
  yes : own ≠ 0 → ∃ π, Pot (lArcs R F k) π ∧ RowPot r own (dif π r)
  no : own = 0 → (∀ i, i < k → F i = F0 i) ∧ ∃ π, Pot (lArcs R F k) π ∧ ∀ l u, chg r 0 sg = some (l, u) → sg * dif π r ≤ l

section
variable {k n : Nat} {R : Nat → Row} {r : Row} {sg : Int} {F0 F : Nat → Int} {own : Int}

theorem sq {sg : Int} (hs : sg = 1 ∨ sg = -1) (c : Int) : sg * (sg * c) = c := by
  rcases hs with rfl | rfl <;> omega

theorem push_step (hs : sg = 1 ∨ sg = -1) (rok : ∀ i, i < k → RowOk (R i)) (ro : RowOk r) (I : PI k R r sg F0 F own) {c v : Int} (hc : chg r own sg = some (c, some v))
    {D : Nat → Int} {p : List Arc} (W : Way n (lArcs R F k) (bg r sg) (gl r sg) D p) (lt : D (gl r sg) + c < 0) :
    ∃ t, lesser (unitsOf R F p none) (some v) = some t ∧ 1 ≤ t ∧ PI k R r sg F0 (send t p F) (own + sg * t) ∧ sg * (own + sg * t) = sg * own + t := by
  obtain ⟨t, ht⟩ := lesser_r (u := unitsOf R F p none) (z := v)
  have v1 := chg_pos ro I.ofok hc v rfl
  have path1 : ∀ a ∈ p, ∀ l u, chg (R a.ix) (F a.ix) a.sg = some (l, some u) → 1 ≤ u := fun a ha l u e => by
    obtain ⟨h1, _⟩ := mem_lArcs (W.mem a ha)
    exact chg_pos (rok _ h1) (I.fok _ h1) e u rfl
  have t1 : 1 ≤ t := (lesser_le ht).2.2 (fun a e => units_pos (u := none) (fun _ z => by cases z) path1 a e) fun b e => by
    cases e
    exact v1
  obtain ⟨_, u2, u3⟩ := units_le ht
  have tv : t ≤ v := u2 v rfl
  have nd := way_ix W.path W.mem W.nodup W.ends
  have on : ∀ a ∈ p, RowPot (R a.ix) (send t p F a.ix) (dif D (R a.ix)) ∧ FlowOk (R a.ix) (send t p F a.ix) := fun a ha => by
    obtain ⟨h1, h2, ⟨u, h3⟩, h4⟩ := mem_lArcs (W.mem a ha)
    rw [send_on nd a ha]
    refine advance (rok _ h1) (I.fok _ h1) h2 h3 t1 (fun w e => ?_) ?_
    · subst e
      exact u3 a ha _ _ h3
    · have tg := W.tight a ha
      rcases h4 with ⟨e, es, ee⟩ | ⟨e, es, ee⟩
      · rw [e]
        rw [es, ee] at tg
        show 1 * (D (R a.ix).s - D (R a.ix).f) = a.l
        omega
      · rw [e]
        rw [es, ee] at tg
        show -1 * (D (R a.ix).s - D (R a.ix).f) = a.l
        omega
  have potD := pot_iff.mp W.pot
  have all : ∀ i, i < k → RowPot (R i) (send t p F i) (dif D (R i)) ∧ FlowOk (R i) (send t p F i) := fun i hi => by
    by_cases m : i ∈ p.map (·.ix)
    · obtain ⟨a, ha, e⟩ := List.mem_map.mp m
      have e' : a.ix = i := e
      rw [← e']
      exact on a ha
    · rw [send_off m]
      exact ⟨potD i hi, I.fok i hi⟩
  have adv := advance ro I.ofok hs hc t1 (fun w e => by cases e; exact tv) (d := sg * c) (sq hs c)
  have e1 : sg * (own + sg * t) = sg * own + t := by
    rw [Int.mul_add, sq hs t]
  have pos : 0 < sg * (own + sg * t) := by
    have := I.osg
    omega
  have ne : own + sg * t ≠ 0 := fun z => by
    rw [z, Int.mul_zero] at pos
    omega
  refine ⟨t, ht, t1, ⟨fun i hi => (all i hi).2, adv.2, by omega, fun x => ?_, ⟨D, pot_iff.mpr fun i hi => (all i hi).1, fun _ l u e => ?_⟩, fun z => absurd z ne⟩, e1⟩
  · rw [send_sum x W.path F F W.mem, bg_dif hs x]
    have := I.bal x
    rw [Int.add_mul]
    have e2 : sg * t * dif x r = t * (sg * dif x r) := by
      rw [Int.mul_comm sg t, Int.mul_assoc]
    rw [e2, Int.mul_neg]
    omega
  · have g := bg_dif hs D (r := r)
    rw [W.at0] at g
    rcases hs with rfl | rfl
    · have := adv.1.dn l u e
      have : -(1 * dif D r) = -1 * dif D r := by omega
      omega
    · have := adv.1.up l u e
      have : -(-1 : Int) * dif D r = dif D r := by omega
      omega

theorem push_full (hs : sg = 1 ∨ sg = -1) (I : PI k R r sg F0 F own) (hc : chg r own sg = none) : PEnd k R r sg F0 F own := by
  obtain ⟨π, hp, hb⟩ := I.pot
  refine ⟨I.fok, I.ofok, I.bal, fun ne => ⟨π, hp, ?_⟩, fun z => ⟨I.same z, π, hp, fun l u e => ?_⟩⟩
  · have h := hb ne
    rcases hs with rfl | rfl
    · refine ⟨fun l u e => ?_, fun l u e => ?_⟩
      · rw [hc] at e
        cases e
      · have := h l u e
        omega
    · refine ⟨fun l u e => ?_, fun l u e => ?_⟩
      · have := h l u e
        have : -(-1 : Int) * dif π r = dif π r := by omega
        omega
      · rw [hc] at e
        cases e
  · rw [z] at hc
    rw [hc] at e
    cases e

theorem push_stop (hs : sg = 1 ∨ sg = -1) (I : PI k R r sg F0 F own) {c : Int} {u : Option Int} (hc : chg r own sg = some (c, u)) {D : Nat → Int} (hD : Pot (lArcs R F k) D) (h0 : D (bg r sg) = 0) (ge : 0 ≤ D (gl r sg) + c) : PEnd k R r sg F0 F own := by
  obtain ⟨π, hp, hb⟩ := I.pot
  have g := bg_dif hs D (r := r)
  rw [h0] at g
  have le : sg * dif D r ≤ c := by omega
  refine ⟨I.fok, I.ofok, I.bal, fun ne => ?_, fun z => ⟨I.same z, D, hD, fun l u' e => ?_⟩⟩
  · have pos : 0 < sg * own := by
      have := I.osg
      rcases hs with rfl | rfl <;> omega
    have h := hb ne
    have ex : ∃ l u', chg r own (-sg) = some (l, u') := by
      rcases hs with rfl | rfl
      · rw [chg_dn, raise_neg (by omega)]
        have := I.ofok.hi (by omega)
        cases q : r.hi with
        | none => exact absurd q this
        | some b => exact ⟨_, _, rfl⟩
      · rw [show -(-1 : Int) = 1 by decide, chg_up, raise_neg (by omega)]
        have := I.ofok.lo (by omega)
        cases q : r.lo with
        | none => exact absurd q this
        | some b => exact ⟨_, _, rfl⟩
    obtain ⟨l, u', hl⟩ := ex
    have el := chg_back hs pos hc hl
    have hl2 := h l u' hl
    rcases hs with rfl | rfl
    · obtain ⟨z, hz, ez⟩ := hD.mid hp r.f r.s (c := c) (by have : (1 : Int) * (D r.s - D r.f) ≤ c := le; omega) (by have : -(1 : Int) * (π r.s - π r.f) ≤ l := hl2; omega)
      refine ⟨z, hz, fun l1 u1 e => ?_, fun l1 u1 e => ?_⟩
      · rw [hc] at e
        cases e
        show z r.s - z r.f ≤ c
        omega
      · have := chg_back (.inl rfl) pos hc e
        show -(z r.s - z r.f) ≤ l1
        omega
    · obtain ⟨z, hz, ez⟩ := hD.mid hp r.s r.f (c := c) (by have : (-1 : Int) * (D r.s - D r.f) ≤ c := le; omega) (by have : -(-1 : Int) * (π r.s - π r.f) ≤ l := hl2; omega)
      refine ⟨z, hz, fun l1 u1 e => ?_, fun l1 u1 e => ?_⟩
      · have := chg_back (.inr rfl) pos hc e
        show z r.s - z r.f ≤ l1
        omega
      · rw [hc] at e
        cases e
        show -(z r.s - z r.f) ≤ c
        omega
  · rw [z] at hc
    rw [hc] at e
    cases e
    exact le

/-- nothing was pushed, in both directions -/
theorem two_ends (ro : RowOk r) {F1 F2 : Nat → Int} (E1 : PEnd k R r 1 F0 F1 0) (E2 : PEnd k R r (-1) F1 F2 0) : ∃ π, Pot (lArcs R F2 k) π ∧ RowPot r 0 (dif π r) := by
  obtain ⟨_, x, hx, kx⟩ := E1.no rfl
  obtain ⟨sm2, y, hy, ky⟩ := E2.no rfl
  rw [← lArcs_congr (R := R) (F := F2) (F' := F1) sm2] at hx
  by_cases e1 : ∀ l u, chg r 0 1 = some (l, u) → dif y r ≤ l
  · exact ⟨y, hy, e1, fun l u e => by have := ky l u e; omega⟩
  · by_cases e2 : ∀ l u, chg r 0 (-1) = some (l, u) → -dif x r ≤ l
    · exact ⟨x, hx, fun l u e => by have := kx l u e; omega, e2⟩
    · have a1 : ∃ l u, chg r 0 1 = some (l, u) ∧ l < dif y r := Classical.byContradiction fun no => e1 fun l u e => by
        by_cases q : dif y r ≤ l
        · exact q
        · exact absurd ⟨l, u, e, by omega⟩ no
      obtain ⟨l, u, hl, ll⟩ := a1
      have h1 := kx l u hl
      have h2 : dif x r ≤ l := by omega
      obtain ⟨z, hz, ez⟩ := hx.mid hy r.f r.s (c := l) h2 (by have : l < y r.s - y r.f := ll; omega)
      refine ⟨z, hz, fun l' u' e => ?_, fun l' u' e => ?_⟩
      · rw [hl] at e
        cases e
        show z r.s - z r.f ≤ l
        omega
      · rw [chg_up] at hl
        rw [chg_dn] at e
        rcases raise_len hl with ⟨g, _, _⟩ | ⟨_, g1, _⟩
        · omega
        · rcases raise_len e with ⟨g, _, _⟩ | ⟨_, g2, _⟩
          · omega
          · have := ro.le _ _ (ngo_some g2) g1
            show -(z r.s - z r.f) ≤ l'
            omega
end

/-! ### the flows of all rows so far -/
structure Done (k : Nat) (R : Nat → Row) (F : Nat → Int) : Prop where
  fok : ∀ i, i < k → FlowOk (R i) (F i)
  bal : ∀ x : Nat → Int, sm k (fun m => F m * dif x (R m)) = 0
  pot : ∃ π, Pot (lArcs R F k) π

theorem Done.start {k : Nat} {R : Nat → Row} {F : Nat → Int} (d : Done k R F) {r : Row} (ro : RowOk r) (sg : Int) : PI k R r sg F F 0 := by
  obtain ⟨π, hp⟩ := d.pot
  refine ⟨d.fok, ⟨fun z => by omega, fun z => by omega, fun w hw => ?_⟩, by omega, fun x => ?_, ⟨π, hp, fun z => absurd rfl z⟩, fun _ _ _ => rfl⟩
  · have := ro.rm w hw
    omega
  · rw [d.bal x, Int.zero_mul]
    rfl
theorem Done.next {k : Nat} {R : Nat → Row} {F F' : Nat → Int} {own : Int} (fok : ∀ i, i < k → FlowOk (R i) (F i)) (ofok : FlowOk (R k) own) (bal : ∀ x : Nat → Int, sm k (fun m => F m * dif x (R m)) + own * dif x (R k) = 0)
    (pot : ∃ π, Pot (lArcs R F k) π ∧ RowPot (R k) own (dif π (R k))) (h : ∀ i, i < k → F' i = F i) (hk : F' k = own) : Done (k + 1) R F' := by
  obtain ⟨π, hp, hr⟩ := pot
  refine ⟨fun i hi => ?_, fun x => ?_, ⟨π, pot_iff.mpr fun i hi => ?_⟩⟩
  · by_cases e : i = k
    · rw [e, hk]
      exact ofok
    · rw [h i (by omega)]
      exact fok i (by omega)
  · have := bal x
    show sm k (fun m => F' m * dif x (R m)) + F' k * dif x (R k) = 0
    rw [sm_congr (g := fun m => F m * dif x (R m)) fun i hi => by rw [h i hi], hk]
    exact this
  · by_cases e : i = k
    · rw [e, hk]
      exact hr
    · rw [h i (by omega)]
      exact pot_iff.mp hp i (by omega)

/-- hard rows without a flow, which some world keeps -/
theorem Done.hard {k : Nat} {R : Nat → Row} {F : Nat → Int} (h0 : ∀ i, i < k → F i = 0) (hn : ∀ i, i < k → (R i).rm = none) {x : Nat → Int} (hx : ∀ i, i < k → (∀ a, (R i).lo = some a → a ≤ dif x (R i)) ∧ ∀ b, (R i).hi = some b → dif x (R i) ≤ b) : Done k R F := by
  refine ⟨fun i hi => ?_, fun y => ?_, ⟨x, pot_iff.mpr fun i hi => ?_⟩⟩
  · rw [h0 i hi]
    refine ⟨fun z => by omega, fun z => by omega, fun w hw => ?_⟩
    rw [hn i hi] at hw
    cases hw
  · rw [sm_congr (g := fun _ => 0) fun i hi => by rw [h0 i hi, Int.zero_mul]]
    clear hn hx h0
    induction k with
    | zero => rfl
    | succ k ih =>
      unfold sm
      rw [ih]
      rfl
  · rw [h0 i hi]
    obtain ⟨h1, h2⟩ := hx i hi
    refine ⟨fun l u e => ?_, fun l u e => ?_⟩
    · rw [chg_up] at e
      rcases raise_len e with ⟨g, _, _⟩ | ⟨_, g, _⟩
      · omega
      · exact h2 l g
    · rw [chg_dn] at e
      rcases raise_len e with ⟨g, _, _⟩ | ⟨_, g, _⟩
      · omega
      · have := h1 _ (ngo_some g)
        omega

/-! ### the nodes are joined by the hard rows -/
structure Base (n h K : Nat) (R : Nat → Row) : Prop where
  nodes : ∀ i, i < K → (R i).f < n ∧ (R i).s < n
  le : h ≤ K
  hard : ∀ i, i < h → (R i).rm = none ∧ (R i).lo ≠ none ∧ (R i).hi ≠ none
  tree : ∀ v, 0 < v → v < n → ∃ i, i < h ∧ ∃ u, u < v ∧ (((R i).f = v ∧ (R i).s = u) ∨ ((R i).f = u ∧ (R i).s = v))
  rok : ∀ i, i < K → RowOk (R i)
  npos : 0 < n

section
variable {n h K : Nat} {R : Nat → Row} {F : Nat → Int}
theorem lArcs_lt (B : Base n h K R) {k : Nat} (hk : k ≤ K) : ∀ a ∈ lArcs R F k, a.s < n ∧ a.e < n := fun a ha => by
  obtain ⟨h1, _, _, h4⟩ := mem_lArcs ha
  have := B.nodes a.ix (by omega)
  rcases h4 with ⟨_, h2, h3⟩ | ⟨_, h2, h3⟩ <;> omega
theorem hard_arcs (B : Base n h K R) {k : Nat} (hk : h ≤ k) {i : Nat} (hi : i < h) : (∃ l, (⟨(R i).f, (R i).s, l, i, 1⟩ : Arc) ∈ lArcs R F k) ∧ ∃ l, (⟨(R i).s, (R i).f, l, i, -1⟩ : Arc) ∈ lArcs R F k := by
  obtain ⟨h1, h2, h3⟩ := B.hard i hi
  obtain ⟨a1, a2⟩ := lArcs_has (R := R) (F := F) (k := k) (i := i) (by omega)
  have ex : ∀ lo hi : Option Int, lo ≠ none → hi ≠ none → ∀ x, ∃ l u, raising lo hi none x = some (l, u) := by
    intro lo hi g1 g2 x
    cases lo with
    | none => exact absurd rfl g1
    | some a =>
      cases hi with
      | none => exact absurd rfl g2
      | some b =>
        by_cases q : x < 0
        · rw [raise_neg q]
          exact ⟨_, _, rfl⟩
        · rw [raise_pos q]
          exact ⟨_, _, rfl⟩
  constructor
  · obtain ⟨l, u, e⟩ := ex (R i).lo (R i).hi h2 h3 (F i)
    have e' : chg (R i) (F i) 1 = some (l, u) := by
      rw [chg_up, h1]
      exact e
    exact ⟨l, a1 _ (arc1_has e')⟩
  · obtain ⟨l, u, e⟩ := ex (ngo (R i).hi) (ngo (R i).lo) (fun z => h3 (ngo_none.mp z)) (fun z => h2 (ngo_none.mp z)) (-F i)
    have e' : chg (R i) (F i) (-1) = some (l, u) := by
      rw [chg_dn, h1]
      exact e
    exact ⟨l, a2 _ (arc1_has e')⟩
theorem reach_zero (B : Base n h K R) {k : Nat} (hk : h ≤ k) : ∀ m v, v < m → v < n → Reach (lArcs R F k) 0 v ∧ Reach (lArcs R F k) v 0
  | 0, v, hm, _ => absurd hm (Nat.not_lt_zero _)
  | m + 1, v, hm, hv => by
    by_cases z : v = 0
    · rw [z]
      exact ⟨⟨0, Walk.nil 0⟩, ⟨0, Walk.nil 0⟩⟩
    · obtain ⟨i, hi, u, hu, e⟩ := B.tree v (by omega) hv
      obtain ⟨⟨l1, m1⟩, ⟨l2, m2⟩⟩ := hard_arcs (F := F) B hk hi
      obtain ⟨⟨c1, w1⟩, ⟨c2, w2⟩⟩ := reach_zero B hk m u (by omega) (by omega)
      rcases e with ⟨e1, e2⟩ | ⟨e1, e2⟩
      · rw [e1, e2] at m1 m2
        exact ⟨⟨_, w1.trans (Walk.one m2)⟩, ⟨_, (Walk.one m1).trans w2⟩⟩
      · rw [e1, e2] at m1 m2
        exact ⟨⟨_, w1.trans (Walk.one m1)⟩, ⟨_, (Walk.one m2).trans w2⟩⟩
theorem reach_all (B : Base n h K R) {k : Nat} (hk : h ≤ k) {i j : Nat} (hi : i < n) (hj : j < n) : Reach (lArcs R F k) i j := by
  obtain ⟨_, c1, w1⟩ := reach_zero (F := F) B hk (i + 1) i (by omega) hi
  obtain ⟨⟨c2, w2⟩, _⟩ := reach_zero (F := F) B hk (j + 1) j (by omega) hj
  exact ⟨_, w1.trans w2⟩
/-- least numbers from any node, in what is left -/
theorem left_dist (B : Base n h K R) {k : Nat} (hk : h ≤ k) (hK : k ≤ K) (p : ∃ π, Pot (lArcs R F k) π) {b : Nat} (hb : b < n) : ∃ D, Dist n (lArcs R F k) b D := by
  obtain ⟨π, p⟩ := p
  exact ⟨_, (clo_ok (n := n) p).dist (lArcs_lt B hK) hb fun j hj => reach_all B hk hb hj⟩
end

/-! ### the gap -/
def exc (lo hi : Option Int) (d : Int) : Int := match lo with
  | some a => if d < a then a - d else (match hi with
    | some b => if b < d then d - b else 0
    | none => 0)
  | none => match hi with
    | some b => if b < d then d - b else 0
    | none => 0
def cost (r : Row) (d : Int) : Int := match r.rm with
  | none => 0
  | some w => w * exc r.lo r.hi d
structure Keeps (r : Row) (d : Int) : Prop where
  lo : ∀ a, r.rm = none → r.lo = some a → a ≤ d
  hi : ∀ b, r.rm = none → r.hi = some b → d ≤ b
def bnd (r : Row) (x : Int) : Int := if x < 0 then r.lo.getD 0 else if 0 < x then r.hi.getD 0 else 0

theorem mul_le0 {a b : Int} (h1 : 0 ≤ a) (h2 : b ≤ 0) : a * b ≤ 0 := Int.mul_nonpos_of_nonneg_of_nonpos h1 h2
theorem mul_eq0 {a b : Int} (h1 : 0 < a) (h : a * b = 0) : b = 0 := by
  rcases Int.mul_eq_zero.mp h with h | h
  · omega
  · exact h

theorem exc_ge0 (lo hi : Option Int) (d : Int) : 0 ≤ exc lo hi d := by
  unfold exc
  split
  · split
    · omega
    · split
      · split <;> omega
      · omega
  · split
    · split <;> omega
    · omega
theorem exc_lo {lo hi : Option Int} {d a : Int} (h : lo = some a) : a - d ≤ exc lo hi d := by
  subst h
  unfold exc
  dsimp only
  split
  · omega
  · split
    · split <;> omega
    · omega
theorem exc_hi {lo hi : Option Int} {d b : Int} (h : hi = some b) (o : ∀ a, lo = some a → a ≤ b) : d - b ≤ exc lo hi d := by
  subst h
  unfold exc
  split
  · have := o _ rfl
    split
    · omega
    · dsimp only
      split <;> omega
  · dsimp only
    split <;> omega
theorem exc_val {lo hi : Option Int} {d : Int} (o : ∀ a b, lo = some a → hi = some b → a ≤ b) : (∃ a, lo = some a ∧ d < a ∧ exc lo hi d = a - d) ∨ (∃ b, hi = some b ∧ b < d ∧ exc lo hi d = d - b) ∨
    ((∀ a, lo = some a → a ≤ d) ∧ (∀ b, hi = some b → d ≤ b) ∧ exc lo hi d = 0) := by
  cases lo with
  | none =>
    cases hi with
    | none => exact .inr (.inr ⟨(fun a e => nomatch e), (fun a e => nomatch e), rfl⟩)
    | some b =>
      by_cases q : b < d
      · refine .inr (.inl ⟨b, rfl, q, ?_⟩)
        unfold exc
        dsimp only
        rw [if_pos q]
      · refine .inr (.inr ⟨(fun a e => nomatch e), fun b' e => by cases e; omega, ?_⟩)
        unfold exc
        dsimp only
        rw [if_neg q]
  | some a =>
    by_cases q : d < a
    · refine .inl ⟨a, rfl, q, ?_⟩
      unfold exc
      dsimp only
      rw [if_pos q]
    · cases hi with
      | none =>
        refine .inr (.inr ⟨fun a' e => by cases e; omega, (fun a e => nomatch e), ?_⟩)
        unfold exc
        dsimp only
        rw [if_neg q]
      | some b =>
        by_cases q2 : b < d
        · refine .inr (.inl ⟨b, rfl, q2, ?_⟩)
          unfold exc
          dsimp only
          rw [if_neg q, if_pos q2]
        · refine .inr (.inr ⟨fun a' e => by cases e; omega, fun b' e => by cases e; omega, ?_⟩)
          unfold exc
          dsimp only
          rw [if_neg q, if_neg q2]

/-- no difference is dearer by the flow than by the row -/
theorem gap_le {r : Row} (o : RowOk r) {x : Int} (f : FlowOk r x) {d : Int} (kp : Keeps r d) : x * (d - bnd r x) ≤ cost r d := by
  unfold bnd
  by_cases h1 : x < 0
  · rw [if_pos h1]
    have := f.lo h1
    cases ql : r.lo with
    | none => exact absurd ql this
    | some a =>
      show x * (d - a) ≤ _
      unfold cost
      cases qr : r.rm with
      | none =>
        have := kp.lo a qr ql
        show x * (d - a) ≤ 0
        have e := mul_le0 (a := -x) (b := a - d) (by omega) (by omega)
        rw [Int.neg_mul, ← Int.mul_neg, Int.neg_sub] at e
        exact e
      | some w =>
        have hw := f.rm w qr
        show x * (d - a) ≤ w * exc r.lo r.hi d
        have g := exc_lo (hi := r.hi) (d := d) ql
        have g0 := exc_ge0 r.lo r.hi d
        have e1 : x * (d - a) = (-x) * (a - d) := by
          rw [Int.neg_mul, ← Int.mul_neg, Int.neg_sub]
        rw [e1]
        have e2 : (-x) * (a - d) ≤ (-x) * exc r.lo r.hi d := Int.mul_le_mul_of_nonneg_left g (by omega)
        have e3 : (-x) * exc r.lo r.hi d ≤ w * exc r.lo r.hi d := Int.mul_le_mul_of_nonneg_right (by omega) g0
        omega
  · rw [if_neg h1]
    by_cases h2 : 0 < x
    · rw [if_pos h2]
      have := f.hi h2
      cases qh : r.hi with
      | none => exact absurd qh this
      | some b =>
        show x * (d - b) ≤ _
        unfold cost
        cases qr : r.rm with
        | none =>
          have := kp.hi b qr qh
          exact mul_le0 (by omega) (by omega)
        | some w =>
          have hw := f.rm w qr
          show x * (d - b) ≤ w * exc r.lo r.hi d
          have g := exc_hi (lo := r.lo) (d := d) qh fun a ea => o.le a b ea qh
          have g0 := exc_ge0 r.lo r.hi d
          have e2 : x * (d - b) ≤ x * exc r.lo r.hi d := Int.mul_le_mul_of_nonneg_left g (by omega)
          have e3 : x * exc r.lo r.hi d ≤ w * exc r.lo r.hi d := Int.mul_le_mul_of_nonneg_right (by omega) g0
          omega
    · rw [if_neg h2]
      have : x = 0 := by omega
      subst this
      rw [Int.zero_mul]
      unfold cost
      split
      · omega
      · rename_i w qr
        exact Int.mul_nonneg (by have := o.rm w qr; omega) (exc_ge0 _ _ _)

theorem mulz (a : Int) {b : Int} (h : b = 0) : a * b = 0 := by rw [h, Int.mul_zero]
/-- exactly the differences that what is left allows are as dear -/
theorem gap_eq {r : Row} (o : RowOk r) {x : Int} (f : FlowOk r x) {d : Int} : RowPot r x d ↔ Keeps r d ∧ x * (d - bnd r x) = cost r d := by
  have up : ∀ l, (∃ u, chg r x 1 = some (l, u)) ↔ (x < 0 ∧ r.lo = some l) ∨ (0 ≤ x ∧ r.hi = some l ∧ ∀ w, r.rm = some w → x < w) := fun l => by
    constructor
    · rintro ⟨u, e⟩
      rw [chg_up] at e
      rcases raise_len e with ⟨h1, h2, _⟩ | ⟨h1, h2, h3⟩
      · exact .inl ⟨h1, h2⟩
      · refine .inr ⟨h1, h2, fun w hw => ?_⟩
        rcases h3 with ⟨h3, _⟩ | ⟨w', h3, h4, _⟩
        · rw [h3] at hw
          cases hw
        · rw [h3] at hw
          cases hw
          exact h4
    · rintro (⟨h1, h2⟩ | ⟨h1, h2, h3⟩)
      · rw [chg_up, raise_neg h1, h2]
        exact ⟨_, rfl⟩
      · rw [chg_up, raise_pos (by omega), h2]
        cases q : r.rm with
        | none => exact ⟨_, rfl⟩
        | some w =>
          have := h3 w q
          dsimp only
          rw [if_neg (by omega)]
          exact ⟨_, rfl⟩
  have dn : ∀ l, (∃ u, chg r x (-1) = some (l, u)) ↔ (0 < x ∧ r.hi = some (-l)) ∨ (x ≤ 0 ∧ r.lo = some (-l) ∧ ∀ w, r.rm = some w → -x < w) := fun l => by
    constructor
    · rintro ⟨u, e⟩
      rw [chg_dn] at e
      rcases raise_len e with ⟨h1, h2, _⟩ | ⟨h1, h2, h3⟩
      · exact .inl ⟨by omega, ngo_some h2⟩
      · refine .inr ⟨by omega, ngo_some h2, fun w hw => ?_⟩
        rcases h3 with ⟨h3, _⟩ | ⟨w', h3, h4, _⟩
        · rw [h3] at hw
          cases hw
        · rw [h3] at hw
          cases hw
          omega
    · rintro (⟨h1, h2⟩ | ⟨h1, h2, h3⟩)
      · rw [chg_dn, raise_neg (by omega), h2]
        exact ⟨_, by show some (- -l, _) = _; rw [Int.neg_neg]⟩
      · rw [chg_dn, raise_pos (by omega), h2]
        cases q : r.rm with
        | none => exact ⟨_, by show some (- -l, _) = _; rw [Int.neg_neg]⟩
        | some w =>
          have := h3 w q
          show ∃ u, (if w ≤ -x then none else some (- -l, some (w - -x))) = some (l, u)
          rw [if_neg (by omega)]
          exact ⟨_, by rw [Int.neg_neg]⟩
  constructor
  · intro p
    have kp : Keeps r d := by
      refine ⟨fun a hr hl => ?_, fun b hr hh => ?_⟩
      · by_cases hx : 0 < x
        · cases qh : r.hi with
          | none => exact absurd qh (f.hi hx)
          | some b =>
            obtain ⟨u, e⟩ := (dn (-b)).mpr (.inl ⟨hx, by rw [Int.neg_neg]; exact qh⟩)
            have := p.dn _ _ e
            have := o.le a b hl qh
            omega
        · obtain ⟨u, e⟩ := (dn (-a)).mpr (.inr ⟨by omega, by rw [Int.neg_neg]; exact hl, fun w hw => by rw [hr] at hw; cases hw⟩)
          have := p.dn _ _ e
          omega
      · by_cases hx : x < 0
        · cases ql : r.lo with
          | none => exact absurd ql (f.lo hx)
          | some a =>
            obtain ⟨u, e⟩ := (up a).mpr (.inl ⟨hx, ql⟩)
            have := p.up _ _ e
            have := o.le a b ql hh
            omega
        · obtain ⟨u, e⟩ := (up b).mpr (.inr ⟨by omega, hh, fun w hw => by rw [hr] at hw; cases hw⟩)
          exact p.up _ _ e
    refine ⟨kp, ?_⟩
    unfold bnd
    by_cases h1 : x < 0
    · rw [if_pos h1]
      have := f.lo h1
      cases ql : r.lo with
      | none => exact absurd ql this
      | some a =>
        obtain ⟨u, e⟩ := (up a).mpr (.inl ⟨h1, ql⟩)
        have da := p.up _ _ e
        show x * (d - a) = _
        unfold cost
        cases qr : r.rm with
        | none =>
          have := kp.lo a qr ql
          exact mulz x (by omega)
        | some w =>
          have hw := f.rm w qr
          show x * (d - a) = w * exc r.lo r.hi d
          rcases exc_val (d := d) o.le with ⟨a', e1, e2, e3⟩ | ⟨b, e1, e2, e3⟩ | ⟨e1, e2, e3⟩
          · rw [ql] at e1
            cases e1
            by_cases q : -x < w
            · obtain ⟨u, e⟩ := (dn (-a)).mpr (.inr ⟨by omega, by rw [Int.neg_neg]; exact ql, fun w' hw' => by rw [qr] at hw'; cases hw'; exact q⟩)
              have := p.dn _ _ e
              omega
            · have : w = -x := by omega
              rw [e3, this, Int.neg_mul, ← Int.mul_neg, Int.neg_sub]
          · have := o.le a b ql e1
            omega
          · have := e1 a ql
            rw [e3, Int.mul_zero]
            exact mulz x (by omega)
    · rw [if_neg h1]
      by_cases h2 : 0 < x
      · rw [if_pos h2]
        have := f.hi h2
        cases qh : r.hi with
        | none => exact absurd qh this
        | some b =>
          obtain ⟨u, e⟩ := (dn (-b)).mpr (.inl ⟨h2, by rw [Int.neg_neg]; exact qh⟩)
          have db := p.dn _ _ e
          show x * (d - b) = _
          unfold cost
          cases qr : r.rm with
          | none =>
            have := kp.hi b qr qh
            exact mulz x (by omega)
          | some w =>
            have hw := f.rm w qr
            show x * (d - b) = w * exc r.lo r.hi d
            rcases exc_val (d := d) o.le with ⟨a, e1, e2, e3⟩ | ⟨b', e1, e2, e3⟩ | ⟨e1, e2, e3⟩
            · have := o.le a b e1 qh
              omega
            · rw [qh] at e1
              cases e1
              by_cases q : x < w
              · obtain ⟨u, e⟩ := (up b).mpr (.inr ⟨by omega, qh, fun w' hw' => by rw [qr] at hw'; cases hw'; exact q⟩)
                have := p.up _ _ e
                omega
              · have : w = x := by omega
                rw [e3, this]
            · have := e2 b qh
              rw [e3, Int.mul_zero]
              exact mulz x (by omega)
      · rw [if_neg h2]
        have x0 : x = 0 := by omega
        subst x0
        rw [Int.zero_mul]
        unfold cost
        cases qr : r.rm with
        | none => rfl
        | some w =>
          have w1 := o.rm w qr
          show (0 : Int) = w * exc r.lo r.hi d
          rcases exc_val (d := d) o.le with ⟨a, e1, e2, e3⟩ | ⟨b, e1, e2, e3⟩ | ⟨e1, e2, e3⟩
          · obtain ⟨u, e⟩ := (dn (-a)).mpr (.inr ⟨by omega, by rw [Int.neg_neg]; exact e1, fun w' hw' => by rw [qr] at hw'; cases hw'; omega⟩)
            have := p.dn _ _ e
            omega
          · obtain ⟨u, e⟩ := (up b).mpr (.inr ⟨by omega, e1, fun w' hw' => by rw [qr] at hw'; cases hw'; omega⟩)
            have := p.up _ _ e
            omega
          · rw [e3, Int.mul_zero]
  · rintro ⟨kp, e⟩
    -- from the cost back: both bounds
    have key : (∀ l, (x < 0 ∧ r.lo = some l) ∨ (0 ≤ x ∧ r.hi = some l ∧ ∀ w, r.rm = some w → x < w) → d ≤ l) ∧ ∀ l, (0 < x ∧ r.hi = some l) ∨ (x ≤ 0 ∧ r.lo = some l ∧ ∀ w, r.rm = some w → -x < w) → l ≤ d := by
      unfold bnd at e
      by_cases h1 : x < 0
      · rw [if_pos h1] at e
        cases ql : r.lo with
        | none => exact absurd ql (f.lo h1)
        | some a =>
          have e' : x * (d - a) = cost r d := by
            rw [e.symm, ql]
            rfl
          cases qr : r.rm with
          | none =>
            have e2 : cost r d = 0 := by
              unfold cost
              rw [qr]
            rw [e2] at e'
            have : d - a = 0 := by
              rcases Int.mul_eq_zero.mp e' with h | h
              · omega
              · exact h
            refine ⟨fun l hl => ?_, fun l hl => ?_⟩
            · rcases hl with ⟨_, g⟩ | ⟨g, _⟩
              · cases g
                omega
              · omega
            · rcases hl with ⟨g, _⟩ | ⟨_, g, _⟩
              · omega
              · cases g
                omega
          | some w =>
            have hw := f.rm w qr
            have e2 : cost r d = w * exc r.lo r.hi d := by
              unfold cost
              rw [qr]
            rw [e2] at e'
            rcases exc_val (d := d) o.le with ⟨a', g1, g2, g3⟩ | ⟨b, g1, g2, g3⟩ | ⟨g1, g2, g3⟩
            · rw [ql] at g1
              cases g1
              rw [g3] at e'
              have e3 : (w + x) * (a - d) = 0 := by
                rw [Int.add_mul]
                have : x * (a - d) = -(x * (d - a)) := by
                  rw [← Int.mul_neg, Int.neg_sub]
                omega
              have : w + x = 0 := by
                rcases Int.mul_eq_zero.mp e3 with h | h
                · exact h
                · omega
              refine ⟨fun l hl => ?_, fun l hl => ?_⟩
              · rcases hl with ⟨_, g⟩ | ⟨g, _⟩
                · cases g
                  omega
                · omega
              · rcases hl with ⟨g, _⟩ | ⟨_, g, g'⟩
                · omega
                · have := g' w rfl
                  omega
            · have hab := o.le a b ql g1
              rw [g3] at e'
              have p1 : x * (d - a) < 0 := by
                have := Int.mul_pos (a := -x) (b := d - a) (by omega) (by omega)
                rw [Int.neg_mul] at this
                omega
              have p2 : 0 ≤ w * (d - b) := Int.mul_nonneg (by omega) (by omega)
              omega
            · rw [g3, Int.mul_zero] at e'
              have : d - a = 0 := by
                rcases Int.mul_eq_zero.mp e' with h | h
                · omega
                · exact h
              refine ⟨fun l hl => ?_, fun l hl => ?_⟩
              · rcases hl with ⟨_, g⟩ | ⟨g, _⟩
                · cases g
                  omega
                · omega
              · rcases hl with ⟨g, _⟩ | ⟨_, g, _⟩
                · omega
                · cases g
                  omega
      · rw [if_neg h1] at e
        by_cases h2 : 0 < x
        · rw [if_pos h2] at e
          cases qh : r.hi with
          | none => exact absurd qh (f.hi h2)
          | some b =>
            have e' : x * (d - b) = cost r d := by
              rw [e.symm, qh]
              rfl
            cases qr : r.rm with
            | none =>
              have e2 : cost r d = 0 := by
                unfold cost
                rw [qr]
              rw [e2] at e'
              have := mul_eq0 h2 e'
              refine ⟨fun l hl => ?_, fun l hl => ?_⟩
              · rcases hl with ⟨g, _⟩ | ⟨_, g, _⟩
                · omega
                · cases g
                  omega
              · rcases hl with ⟨_, g⟩ | ⟨g, _⟩
                · cases g
                  omega
                · omega
            | some w =>
              have hw := f.rm w qr
              have e2 : cost r d = w * exc r.lo r.hi d := by
                unfold cost
                rw [qr]
              rw [e2] at e'
              rcases exc_val (d := d) o.le with ⟨a, g1, g2, g3⟩ | ⟨b', g1, g2, g3⟩ | ⟨g1, g2, g3⟩
              · have hab := o.le a b g1 qh
                rw [g3] at e'
                have p1 : x * (d - b) < 0 := by
                  have := Int.mul_pos (a := x) (b := b - d) h2 (by omega)
                  rw [show b - d = -(d - b) by omega, Int.mul_neg] at this
                  omega
                have p2 : 0 ≤ w * (a - d) := Int.mul_nonneg (by omega) (by omega)
                omega
              · rw [qh] at g1
                cases g1
                rw [g3] at e'
                have e3 : (w - x) * (d - b) = 0 := by
                  rw [Int.sub_mul]
                  omega
                have : w - x = 0 := by
                  rcases Int.mul_eq_zero.mp e3 with h | h
                  · exact h
                  · omega
                refine ⟨fun l hl => ?_, fun l hl => ?_⟩
                · rcases hl with ⟨g, _⟩ | ⟨_, g, g'⟩
                  · omega
                  · have := g' w rfl
                    omega
                · rcases hl with ⟨_, g⟩ | ⟨g, _⟩
                  · cases g
                    omega
                  · omega
              · rw [g3, Int.mul_zero] at e'
                have := mul_eq0 h2 e'
                refine ⟨fun l hl => ?_, fun l hl => ?_⟩
                · rcases hl with ⟨g, _⟩ | ⟨_, g, _⟩
                  · omega
                  · cases g
                    omega
                · rcases hl with ⟨_, g⟩ | ⟨g, _⟩
                  · cases g
                    omega
                  · omega
        · have x0 : x = 0 := by omega
          subst x0
          rw [Int.zero_mul] at e
          cases qr : r.rm with
          | none =>
            refine ⟨fun l hl => ?_, fun l hl => ?_⟩
            · rcases hl with ⟨g, _⟩ | ⟨_, g, _⟩
              · omega
              · exact kp.hi l qr g
            · rcases hl with ⟨g, _⟩ | ⟨_, g, _⟩
              · omega
              · exact kp.lo l qr g
          | some w =>
            have w1 := o.rm w qr
            have e2 : cost r d = w * exc r.lo r.hi d := by
              unfold cost
              rw [qr]
            rw [e2] at e
            have e0 := mul_eq0 (by omega : 0 < w) e.symm
            rcases exc_val (d := d) o.le with ⟨a, g1, g2, g3⟩ | ⟨b', g1, g2, g3⟩ | ⟨g1, g2, g3⟩
            · omega
            · omega
            · refine ⟨fun l hl => ?_, fun l hl => ?_⟩
              · rcases hl with ⟨g, _⟩ | ⟨_, g, _⟩
                · omega
                · exact g2 l g
              · rcases hl with ⟨g, _⟩ | ⟨_, g, _⟩
                · omega
                · exact g1 l g
    refine ⟨fun l u h => key.1 l ((up l).mp ⟨u, h⟩), fun l u h => ?_⟩
    have := key.2 (-l) ((dn l).mp ⟨u, h⟩)
    omega

def World (K : Nat) (R : Nat → Row) (y : Nat → Int) : Prop := ∀ i, i < K → Keeps (R i) (dif y (R i))
def Gr (K : Nat) (R : Nat → Row) (y : Nat → Int) : Int := sm K fun i => cost (R i) (dif y (R i))
/-- THE GAP: what is left are the worlds of least growth -/
theorem least {K : Nat} {R : Nat → Row} {F : Nat → Int} (rok : ∀ i, i < K → RowOk (R i)) (d : Done K R F) : ∃ m, (∀ y, World K R y → m ≤ Gr K R y) ∧ ∀ y, Pot (lArcs R F K) y ↔ World K R y ∧ Gr K R y = m := by
  have split : ∀ y : Nat → Int, sm K (fun i => F i * (dif y (R i) - bnd (R i) (F i))) = sm K (fun i => -(F i * bnd (R i) (F i))) := fun y => by
    have h := d.bal y
    have e := sm_add (n := K) (f := fun i => F i * dif y (R i)) (g := fun i => -(F i * bnd (R i) (F i)))
    rw [h, Int.zero_add] at e
    rw [← e]
    refine sm_congr fun i _ => ?_
    rw [Int.mul_sub]
    rfl
  refine ⟨sm K fun i => -(F i * bnd (R i) (F i)), fun y hy => ?_, fun y => ⟨fun p => ?_, fun ⟨hy, e⟩ => ?_⟩⟩
  · rw [← split y]
    exact sm_le fun i hi => gap_le (rok i hi) (d.fok i hi) (hy i hi)
  · have h := pot_iff.mp p
    refine ⟨fun i hi => ((gap_eq (rok i hi) (d.fok i hi)).mp (h i hi)).1, ?_⟩
    rw [← split y]
    exact (sm_congr fun i hi => ((gap_eq (rok i hi) (d.fok i hi)).mp (h i hi)).2).symm
  · refine pot_iff.mpr fun i hi => (gap_eq (rok i hi) (d.fok i hi)).mpr ⟨hy i hi, ?_⟩
    rw [← split y] at e
    exact sm_tight (fun i hi => gap_le (rok i hi) (d.fok i hi) (hy i hi)) e.symm i hi
end Kw

/-! The text by places; promises by names; steps of readings. -/
namespace Kt
open PySem PySem.Spec PyProof.Rows L2
def topS (i : Nat) : Stmt := PySem.Challenge.pw_counthall_k66_whole_cheapest_table.main.body.getD i (.Pass ⟨0, 0, 0, 0⟩)

/-- a def that keeps a promise, by its name -/
structure Has (P : Program) (w : World) (K : PySem.W.Frag) (mg : Str → Option Value) (base : Heap) (CX : CXT) (k : Nat) (x : Str) (ps : List Str) (sp : Sp) : Prop where
  ex : ∃ (f : Addr) (fd : FuncData), FnOk P w K mg base CX k f fd ps sp ∧ Binds K fd ps [] ∧ mg x = some (.ref f) ∧ PySem.W.keepIn K (.ref f) = true
theorem Has.mono {P : Program} {w : World} {K : PySem.W.Frag} {mg : Str → Option Value} {base : Heap} {CX : CXT} {k j : Nat} {x : Str} {ps : List Str} {sp : Sp} (h : Has P w K mg base CX k x ps sp) (l : k ≤ j) : Has P w K mg base CX j x ps sp := by
  obtain ⟨f, fd, F, r⟩ := h.ex
  exact ⟨f, fd, F.mono l, r⟩
theorem pe_has {X : Cx} {CX : CXT} {k : Nat} {x : Str} {ps : List Str} {sp : Sp} {E : XK} {t : TA} {p pos : Pos} {e : Expr} {es : List Expr} (h : Has X.prog X.w X.K X.mg X.base CX k x ps sp) (hr : Room k X.A) (hx : Passes CX X E) (ha : PA X (e :: es) t)
    (hg : Gl X x := by rfl) (hdb : (x == ("__debug__" : Str)) = false := by decide) (he : starEach (e :: es) X.env = (false, eval e X.env) :: starEach es X.env := by rfl) (hpl : (backTo pos (starEach es X.env)).any (·.1) = false := by rfl) : PE X (.Call (.Name x p) (e :: es) [] pos) (tCall sp [] E t) := by
  obtain ⟨f, fd, F, b, g, kp⟩ := h.ex
  exact pe_call F hr hg g kp b .nil hx ha hdb he hpl

/-- where a def stands and what its text is -/
structure Dk (K : PySem.W.Frag) (mg : Str → Option Value) (x : Str) (st : Stmt) : Prop where
  ex : ∃ (f : Addr) (fd : FuncData), FunD K x x (defArgs st) (defBody st) (defScope st) [] [] f fd ∧ mg x = some (.ref f)

section
variable {P : Program} {w : World} {K : PySem.W.Frag} {mg : Str → Option Value} {base : Heap}
theorem Dk.has {x : Str} {st : Stmt} {CX : CXT} {N ps : List Str} {k : Nat} {sp : Sp} (D : Dk K mg x st) (S : FnScope N ps (defScope st)) (len : ∀ vs H Q E, sp vs H Q E → vs.length = ps.length)
    (hb : ∀ (kV doc pm : Value) (an : Option Addr) (cdv ct : Value) (us : List Value), us.length = ps.length → bindArgs (PySem.W.fnOf x x (defArgs st) (defBody st) (defScope st) .none kV doc pm an cdv ct) ⟨us, []⟩ = pure (ps.zip us))
    (hbody : ∀ (f : Addr) (cdv : Value) (A : Around) (outer : List Env) (s : Shared) (H : Hp) (vs : List V) (Q : VK) (E : XK), Room k (A.deeper (envOfC x (defScope st) s.heap.objs.size f cdv)) → sp vs H Q E →
      ∃ t, PSs (cxOf CX P w K mg base N x (defScope st) f cdv A outer s H E) (defBody st) t ∧ t { nx := fun _ H' => Q .non H', rt := Q } (start N vs) H) : Has P w K mg base CX (k + 1) x ps sp := by
  obtain ⟨f, fd, F, g⟩ := D.ex
  exact ⟨f, fd, F.ok S len (hbody f), F.bindsN hb, g, F.kp⟩
/-- the same where no exception leaves -/
theorem Dk.has0 {x : Str} {st : Stmt} {N ps : List Str} {k : Nat} {sp : Sp} (D : Dk K mg x st) (S : FnScope N ps (defScope st)) (len : ∀ vs H Q E, sp vs H Q E → vs.length = ps.length)
    (hb : ∀ (kV doc pm : Value) (an : Option Addr) (cdv ct : Value) (us : List Value), us.length = ps.length → bindArgs (PySem.W.fnOf x x (defArgs st) (defBody st) (defScope st) .none kV doc pm an cdv ct) ⟨us, []⟩ = pure (ps.zip us))
    (hbody : ∀ (f : Addr) (cdv : Value) (A : Around) (outer : List Env) (s : Shared) (H : Hp) (vs : List V) (Q : VK) (E : XK), Room k (A.deeper (envOfC x (defScope st) s.heap.objs.size f cdv)) → sp vs H Q E →
      ∃ t, PSs (cxOf CX0 P w K mg base N x (defScope st) f cdv A outer s H E).nox (defBody st) t ∧ t { nx := fun _ H' => Q .non H', rt := Q } (start N vs) H) : Has P w K mg base CX0 (k + 1) x ps sp :=
  D.has S len hb fun f cdv A outer s H vs Q E hr h => by
    obtain ⟨t, ht, q⟩ := hbody f cdv A outer s H vs Q E hr h
    exact ⟨t, ht.nox, q⟩
end
/-- the names of built-in things are free in the module -/
structure Fr (mg : Str → Option Value) : Prop where
  len : mg "len" = none
  range : mg "range" = none
  abs : mg "abs" = none
  min : mg "min" = none
  max : mg "max" = none
  sum : mg "sum" = none
  int : mg "int" = none
  bool : mg "bool" = none
  list : mg "list" = none
  tuple : mg "tuple" = none
  isinstance : mg "isinstance" = none
  enumerate : mg "enumerate" = none
  all : mg "all" = none
  str : mg "str" = none
  super : mg "super" = none
  valueError : mg "ValueError" = none
end Kt

namespace Kt
open PySem PySem.Spec PyProof.Rows L2
/-- an item by its place, to be changed -/
def rGetL (K : PySem.W.Frag) : R2 := fun x y H Q => ∃ p xs i v, x = .ref p ∧ y = .int i ∧ SqL K H p xs ∧ 0 ≤ i ∧ atI xs i = some v ∧ Q v H
theorem get_list {X : Cx} : PGet X (rGetL X.K) := by
  intro pins s σ H o i ov iv Q I r1 r2 h
  obtain ⟨p, xs, k, z, rfl, rfl, hq, h0, he, q⟩ := h
  cases r1
  obtain ⟨t, rfl⟩ := r2
  obtain ⟨its, r, pl, hz⟩ := I.list hq
  obtain ⟨j, h1, h2, h3, h4, h5⟩ := atI_get he
  obtain ⟨u, eu, ru⟩ := r.get h2
  have hl := r.length
  have hn := line63
  have hj : k.toNat = j := by
    rw [seqIndex_of h0 h5] at h1
    exact Option.some.inj h1
  exact wpAny_getItem_list pl.isList h0 (by omega) (by rw [hj]; simpa using eu) ⟨z, H, I, ru, q⟩
/-- is None, is not None, by name -/
def rIsN : R2 := fun x y H Q => y = .non ∧ Q (.bl (decide (x = .non))) H
def rNotN : R2 := fun x y H Q => y = .non ∧ Q (.bl (!decide (x = .non))) H
theorem o_isN {X : Cx} : OpR X (compareOp .Is) rIsN := op_isN
theorem o_notN {X : Cx} : OpR X (compareOp .IsNot) rNotN := op_notN
def rMin2 : List V → Hp → VK → Prop := fun xs H Q => ∃ i j, xs = [.int i, .int j] ∧ Q (.int (if j < i then j else i)) H
theorem c_min2 {X : Cx} (hc : X.calm = true) : CallR X (.builtin "min") rMin2 := call_min2 hc
def rAbs : List V → Hp → VK → Prop := fun xs H Q => ∃ i, xs = [.int i] ∧ Q (.int (if i < 0 then -i else i)) H
theorem c_abs {X : Cx} : CallR X (.builtin "abs") rAbs := call_abs
def rInt1 : List V → Hp → VK → Prop := fun xs H Q => (∃ i, xs = [.int i] ∧ Q (.int i) H) ∨ ∃ k, xs = [.bl k] ∧ Q (.int (if k then 1 else 0)) H
theorem c_int {X : Cx} : CallR X (.type "int") rInt1 := call_int1
/-! ### rules whose readings name K, for blocks -/
section
variable {X : Cx} {K : PySem.W.Frag} {a b e : Expr} {es : List Expr} {ta tb te : TE} {t : TA} {pos p : Pos} {f : Str}
theorem pe_ixL (hK : X.K = K) (ha : PE X a ta) (hb : PE X b tb) (hs : PlainIx b) : PE X (.Subscript a b pos) (tOp (rIxL K) ta tb) := by
  subst hK
  exact pe_ix ix_list ha hb hs
theorem pe_ixT (hK : X.K = K) (ha : PE X a ta) (hb : PE X b tb) (hs : PlainIx b) : PE X (.Subscript a b pos) (tOp (rIxT K) ta tb) := by
  subst hK
  exact pe_ix ix_tup ha hb hs
def rLenQ (K : PySem.W.Frag) : List V → Hp → VK → Prop := fun xs H Q => ∃ p ys, xs = [.ref p] ∧ (SqL K H p ys ∨ SqT K H p ys) ∧ Q (.int ys.length) H
def rListQ (K : PySem.W.Frag) : List V → Hp → VK → Prop := fun xs H Q => ∃ p ys, xs = [.ref p] ∧ (SqL K H p ys ∨ SqT K H p ys) ∧ ∀ l, H l = none → Q (.ref l) (upd H l (.lst ys))
def rTupQ (K : PySem.W.Frag) : List V → Hp → VK → Prop := fun xs H Q => ∃ p ys, xs = [.ref p] ∧ ((SqL K H p ys ∧ ∀ l, H l = none → Q (.ref l) (upd H l (.tup ys))) ∨ (SqT K H p ys ∧ Q (.ref p) H))
theorem c_len (hK : X.K = K) : CallR X (.builtin "len") (rLenQ K) := by
  subst hK
  exact call_len_seq
theorem c_list (hK : X.K = K) : CallR X (.type "list") (rListQ K) := by
  subst hK
  exact call_list_of
theorem c_tuple (hK : X.K = K) : CallR X (.type "tuple") (rTupQ K) := by
  subst hK
  exact call_tuple_of
theorem c_sum (hK : X.K = K) (hc : X.calm = true) : CallR X (.builtin "sum") (rSum K) := by
  subst hK
  exact cr_sum hc
theorem c_max (hK : X.K = K) (hc : X.calm = true) : CallR X (.builtin "max") (rMax K) := by
  subst hK
  exact cr_max hc
theorem c_min (hK : X.K = K) (hc : X.calm = true) : CallR X (.builtin "min") (rMin K) := by
  subst hK
  exact cr_min hc
theorem revK (h : PE X e (tRevL X.K te)) (hK : X.K = K) : PE X e (tRevL K te) := by
  subst hK
  exact h
theorem bmK {T : String} {r : V → List V → Hp → VK → Prop} {to : TE} (h : PE X e (tBM X.K T r to t)) (hK : X.K = K) : PE X e (tBM K T r to t) := by
  subst hK
  exact h
theorem pe_fldK (hK : X.K = K) (he : PE X e ta) (hb : attributeBase e f X.env (eval e X.env) = eval e X.env) : PE X (.Attribute e f pos) (tFld K ta f) := by
  subst hK
  exact pe_fld he hb
theorem pi_listK {tg l : Expr} {tl : TE} (hK : X.K = K) (hl : PE X l tl) : PI X tg l (iList K tl) := by
  subst hK
  exact pi_list hl
theorem pi_tupK {tg l : Expr} {tl : TE} (hK : X.K = K) (hl : PE X l tl) : PI X tg l (iTup K tl) := by
  subst hK
  exact pi_tup hl
theorem pg_tupK {es : List Expr} {k : Nat} {t : TGs} {n : Nat} (hK : X.K = K) (hc : X.calm = true) (h : PGs X es t) (hn : (assignEach es X.env).length = n := by rfl) (hst : (assignEach es X.env).findIdx? (·.1) = none := by rfl) : PG X (.Tuple es k pos) (gTup K n t) := by
  subst hK

  exact pg_tup hc h hn hst
end
end Kt

/-! Steps of readings; data at any depth. -/
namespace Kt
open PySem PySem.Spec PyProof.Rows L2
section
variable {K : PySem.W.Frag} {σ : L2.St} {H : Hp} {Q : VK} {QT : Bool → Hp → Prop} {QA : List V → Hp → Prop} {D : Ends} {v x y z : V} {ta tb tc te : TE} {tt tu : TT} {t1 t2 : TS} {tA : TA} {i j : Int} {n : Nat} {p : Addr} {xs : List V}
theorem q_var {k : Nat} (h : σ[k]? = some (some v)) (q : Q v H) : tVar k σ H Q := ⟨v, h, q⟩
theorem q_c (q : Q v H) : tC v σ H Q := q
theorem q_op {r : R2} (q : ta σ H fun x H1 => tb σ H1 fun y H2 => r x y H2 Q) : tOp r ta tb σ H Q := q
theorem q_un {r : V → Hp → VK → Prop} (q : ta σ H fun x H1 => r x H1 Q) : tUn r ta σ H Q := q
theorem q_i0 {g : Int → Int → V} (q : Q (g i j) H) : rI0 g (.int i) (.int j) H Q := ⟨i, j, rfl, rfl, q⟩
theorem q_i {C : Int → Int → Prop} {g : Int → Int → V} (c : C i j) (q : Q (g i j) H) : rI C g (.int i) (.int j) H Q := ⟨i, j, rfl, rfl, c, q⟩
theorem q_u {g : Int → V} (q : Q (g i) H) : rU g (.int i) H Q := ⟨i, rfl, q⟩
theorem dint : decide (V.int i = V.int j) = decide (i = j) := by
  by_cases e : i = j
  · rw [e, decide_eq_true rfl, decide_eq_true rfl]
  · rw [decide_eq_false e, decide_eq_false fun h => e (V.int.inj h)]
theorem q_eq (q : Q (.bl (decide (i = j))) H) : rEq (.int i) (.int j) H Q := ⟨rfl, by rw [dint]; exact q⟩
theorem q_ne (q : Q (.bl (!decide (i = j))) H) : rNe (.int i) (.int j) H Q := ⟨rfl, by rw [dint]; exact q⟩
theorem q_ixL (h : SqL K H p xs) (e : atI xs i = some v) (q : Q v H) : rIxL K (.ref p) (.int i) H Q := ⟨p, xs, i, v, rfl, rfl, h, e, q⟩
theorem q_ixT (h : SqT K H p xs) (e : atI xs i = some v) (q : Q v H) : rIxT K (.ref p) (.int i) H Q := ⟨p, xs, i, v, rfl, rfl, h, e, q⟩
theorem q_ixLn (h : H p = some (.lst xs)) (e : xs[n]? = some v) (q : Q v H) : rIxL K (.ref p) (.int (n : Int)) H Q := q_ixL (.of h) (atI_nat e) q
theorem q_ixTn (h : H p = some (.tup xs)) (e : xs[n]? = some v) (q : Q v H) : rIxT K (.ref p) (.int (n : Int)) H Q := q_ixT (.of h) (atI_nat e) q
theorem q_test (q : te σ H fun x H' => ∃ k, x = .bl k ∧ QT k H') : tTest te σ H QT := q
theorem q_tB (q : te σ H fun x H' => ∃ k, x = .bl k ∧ QT k H') : tB te σ H QT := q
theorem q_bl {b : Bool} {Pk : Bool → Prop} (q : Pk b) : ∃ k, V.bl b = .bl k ∧ Pk k := ⟨b, rfl, q⟩
theorem q_exint {b : Int} {Pk : Int → Prop} (q : Pk b) : ∃ k, V.int b = .int k ∧ Pk k := ⟨b, rfl, q⟩
theorem q_not (q : tt σ H fun c H1 => QT (!c) H1) : tNot tt σ H QT := q
theorem q_and (q : tt σ H fun c H1 => if c = true then tu σ H1 QT else QT false H1) : tAnd tt tu σ H QT := q
theorem q_or (q : tt σ H fun c H1 => if c = true then QT true H1 else tu σ H1 QT) : tOr tt tu σ H QT := q
theorem q_len (h : SqL K H p xs) (q : Q (.int (xs.length : Nat)) H) : rLenQ K [.ref p] H Q := ⟨p, xs, rfl, .inl h, q⟩
theorem q_rev (q : te σ H fun x H1 => ∃ a xs, x = .ref a ∧ SqL K H1 a xs ∧ ∀ p, H1 p = none → Q (.ref p) (upd H1 p (.lst xs.reverse))) : tRevL K te σ H Q := q
theorem q_nil (q : QA [] H) : tNil σ H QA := q
theorem q_cons (q : te σ H fun x H1 => tA σ H1 fun xs H2 => QA (x :: xs) H2) : tCons te tA σ H QA := q
theorem q_tup (q : tA σ H fun xs H1 => xs.length ≤ sizeLine ∧ ∀ p, H1 p = none → Q (.ref p) (upd H1 p (.tup xs))) : tTup tA σ H Q := q
theorem q_lst (q : tA σ H fun xs H1 => xs.length ≤ sizeLine ∧ ∀ p, H1 p = none → Q (.ref p) (upd H1 p (.lst xs))) : tLst tA σ H Q := q
theorem q_call {sp : Sp} {E : XK} (q : tA σ H fun vs H1 => sp vs H1 Q E) : tCall sp [] E tA σ H Q := by
  have e : (fun (vs : List V) (H1 : Hp) => sp (vs ++ []) H1 Q E) = fun vs H1 => sp vs H1 Q E := by
    funext vs H1
    rw [List.append_nil]
  show tA σ H fun vs H1 => sp (vs ++ []) H1 Q E
  rw [e]
  exact q
theorem q_cb {r : List V → Hp → VK → Prop} (q : tA σ H fun vs H1 => r vs H1 Q) : tCB r tA σ H Q := q
theorem q_seq (q : t1 { D with nx := t2 D } σ H) : tSeq t1 t2 D σ H := q
theorem q_asg {k : Nat} (q : te σ H fun x H1 => D.nx (σ.set k (some x)) H1) : tAsg te (gName k) D σ H := q
theorem q_asgG {g : TG} (q : te σ H fun x H1 => g x σ H1 D.nx) : tAsg te g D σ H := q
theorem q_ret (q : te σ H D.rt) : tRet te D σ H := q
theorem q_drop (q : te σ H fun _ H1 => D.nx σ H1) : tDrop te D σ H := q
theorem q_next (q : D.nx σ H) : tNext D σ H := q
theorem q_if (q : tt σ H fun b H1 => if b = true then t1 D σ H1 else t2 D σ H1) : tIfS tt t1 t2 D σ H := q
theorem q_aug {k : Nat} {f : Int → Int → Int} {a : Int} (h : σ[k]? = some (some (.int a))) (q : te σ H fun y H1 => ∃ b, y = .int b ∧ D.nx (σ.set k (some (.int (f a b)))) H1) : tAug k te (ipI f) D σ H :=
  ⟨.int a, h, by
    have e : (fun (y : V) (H1 : Hp) => ∃ b, y = .int b ∧ D.nx (σ.set k (some (.int (f a b)))) H1) = fun y H1 => ipI f (.int a) y H1 fun z H2 => D.nx (σ.set k (some z)) H2 := by
      funext y H1
      refine propext ⟨fun ⟨b, e, q⟩ => ⟨a, b, rfl, e, q⟩, fun ⟨a', b, e1, e2, q⟩ => ?_⟩
      cases e1
      exact ⟨b, e2, q⟩
    rw [e] at q
    exact q⟩
theorem q_isN (q : Q (.bl (decide (x = .non))) H) : rIsN x .non H Q := ⟨rfl, q⟩
theorem q_notN (q : Q (.bl (!decide (x = .non))) H) : rNotN x .non H Q := ⟨rfl, q⟩
theorem q_min2 (q : Q (.int (if j < i then j else i)) H) : rMin2 [.int i, .int j] H Q := ⟨i, j, rfl, q⟩
theorem q_abs (q : Q (.int (if i < 0 then -i else i)) H) : rAbs [.int i] H Q := ⟨i, rfl, q⟩
theorem q_int (q : Q (.int i) H) : rInt1 [.int i] H Q := .inl ⟨i, rfl, q⟩
theorem ift {b : Bool} {A B : Prop} (e : b = true) (q : A) : if b = true then A else B := by
  rw [if_pos e]
  exact q
theorem iff' {b : Bool} {A B : Prop} (e : b = false) (q : B) : if b = true then A else B := by
  rw [e, if_neg Bool.false_ne_true]
  exact q
theorem ifd {c A B : Prop} [Decidable c] (h1 : c → A) (h2 : ¬ c → B) : if decide c = true then A else B := by
  by_cases h : c
  · rw [decide_eq_true h, if_pos rfl]
    exact h1 h
  · rw [decide_eq_false h, if_neg Bool.false_ne_true]
    exact h2 h
theorem ifn {c A B : Prop} [Decidable c] (h1 : ¬ c → A) (h2 : c → B) : if (!decide c) = true then A else B := by
  by_cases h : c
  · rw [decide_eq_true h]
    show if false = true then A else B
    rw [if_neg Bool.false_ne_true]
    exact h2 h
  · rw [decide_eq_false h]
    show if true = true then A else B
    rw [if_pos rfl]
    exact h1 h
end
theorem same_upd {H : Hp} {p : Addr} {o : HO} (h : H p = none) : Same H (upd H p o) := fun b x e => by
  rw [upd_ne (ne_of_none e h)]
  exact e
theorem Same.sqt {K : PySem.W.Frag} {H H' : Hp} {a : Addr} {xs : List V} (e : Same H H') (h : SqT K H a xs) : SqT K H' a xs := by
  rcases h with (h | ⟨o, h⟩) | h
  · exact .inl (.inl (e _ _ h))
  · exact .inl (.inr ⟨o, e _ _ h⟩)
  · exact .inr h
mutual
theorem dp_same {K : PySem.W.Frag} {H H' : Hp} (e : Same H H') : ∀ {v : V} {d : PyData}, Dp K H v d → Dp K H' v d
  | _, _, .non => .non
  | _, _, .bl b => .bl b
  | _, _, .int i => .int i
  | _, _, .str x => .str x
  | _, _, .lst h g => .lst (e.seq h) (dpa_same e g)
  | _, _, .tup h g => .tup (Same.sqt e h) (dpa_same e g)
theorem dpa_same {K : PySem.W.Frag} {H H' : Hp} (e : Same H H') : ∀ {vs : List V} {ds : List PyData}, DpAll K H vs ds → DpAll K H' vs ds
  | _, _, .nil => .nil
  | _, _, .cons h g => .cons (dp_same e h) (dpa_same e g)
end
section
variable {K : PySem.W.Frag} {H : Hp} {v : V} {vs : List V} {d : PyData} {ds : List PyData}
theorem dp_int {i : Int} (h : Dp K H v (.int i)) : v = .int i := by
  cases h
  rfl
theorem dp_non (h : Dp K H v .none) : v = .non := by
  cases h
  rfl
theorem dp_lst (h : Dp K H v (.list ds)) : ∃ a xs, v = .ref a ∧ SqL K H a xs ∧ DpAll K H xs ds := by
  cases h with
  | lst h1 h2 => exact ⟨_, _, rfl, h1, h2⟩
theorem dp_tup (h : Dp K H v (.tuple ds)) : ∃ a xs, v = .ref a ∧ SqT K H a xs ∧ DpAll K H xs ds := by
  cases h with
  | tup h1 h2 => exact ⟨_, _, rfl, h1, h2⟩
theorem dpa_len : ∀ {vs : List V} {ds : List PyData}, DpAll K H vs ds → vs.length = ds.length
  | _, _, .nil => rfl
  | _, _, .cons _ g => by rw [List.length_cons, List.length_cons, dpa_len g]
theorem dpa_get : ∀ {vs : List V} {ds : List PyData} {i : Nat} {d : PyData}, DpAll K H vs ds → ds[i]? = some d → ∃ v, vs[i]? = some v ∧ Dp K H v d
  | _, _, i, _, .nil, e => by simp at e
  | _, _, 0, _, .cons h _, e => by
    simp at e
    subst e
    exact ⟨_, rfl, h⟩
  | _, _, i + 1, _, .cons _ g, e => by
    obtain ⟨v, e1, e2⟩ := dpa_get (i := i) g (by simpa using e)
    exact ⟨v, by simpa using e1, e2⟩
theorem dpa_getV : ∀ {vs : List V} {ds : List PyData} {i : Nat} {v : V}, DpAll K H vs ds → vs[i]? = some v → ∃ d, ds[i]? = some d ∧ Dp K H v d
  | _, _, i, _, .nil, e => by simp at e
  | _, _, 0, _, .cons h _, e => by
    simp at e
    subst e
    exact ⟨_, rfl, h⟩
  | _, _, i + 1, _, .cons _ g, e => by
    obtain ⟨v, e1, e2⟩ := dpa_getV (i := i) g (by simpa using e)
    exact ⟨v, by simpa using e1, e2⟩
theorem dpa_app : ∀ {vs ws : List V} {ds es : List PyData}, DpAll K H vs ds → DpAll K H ws es → DpAll K H (vs ++ ws) (ds ++ es)
  | _, _, _, _, .nil, g => g
  | _, _, _, _, .cons h t, g => .cons h (dpa_app t g)
theorem dpa_snoc (h : DpAll K H vs ds) (g : Dp K H v d) : DpAll K H (vs ++ [v]) (ds ++ [d]) := dpa_app h (.cons g .nil)
end
/-- an int or None -/
abbrev oV : Option Int → V
  | none => .non
  | some i => .int i
def oD : Option Int → PyData
  | none => .none
  | some i => .int i
theorem dp_o {K : PySem.W.Frag} {H : Hp} (o : Option Int) : Dp K H (oV o) (oD o) := by
  cases o with
  | none => exact .non
  | some i => exact .int i
theorem dp_oV {K : PySem.W.Frag} {H : Hp} {o : Option Int} {v : V} (h : Dp K H v (oD o)) : v = oV o := by
  cases o with
  | none => exact dp_non h
  | some i => exact dp_int h
end Kt

/-! Loops step by step; what stands in the heap. -/
namespace Kt
open PySem PySem.Spec PyProof.Rows L2
section
variable {X : Cx}
/-- a statement, a word, the rest -/
def tMid (t u : TS) : TS := fun D σ H => ∃ Md : L2.St → Hp → Prop, t { D with nx := Md } σ H ∧ ∀ σ' H', Md σ' H' → u D σ' H'
theorem pss_mid {st : Stmt} {sts : List Stmt} {t u : TS} (a : PS X st t) (b : PSs X sts u) : PSs X (st :: sts) (tMid t u) := by
  constructor
  intro pins s σ H D I h
  obtain ⟨Md, h1, h2⟩ := h
  apply wpAny_execs_cons
  apply thn (a.run pins s σ H { D with nx := Md } I h1)
  intro fl s1 q
  match fl, q with
  | .next, ⟨σ', H', I', q⟩ => exact b.run pins s1 σ' H' D I' (h2 σ' H' q)
  | .ret v, q => exact q
  | .brk, q => exact q
  | .cont, q => exact q
end
section
variable {K : PySem.W.Frag} {σ : L2.St} {H : Hp} {Q : VK} {D : Ends} {te : TE} {tb : TS} {g : TG} {tt : TT} {ws : List Nat} {e1 : TE}
theorem q_par {i j : Nat} {ta : TA} (q : ta σ H fun vs H1 => ∃ v w, vs = [v, w] ∧ D.nx ((σ.set i (some v)).set j (some w)) H1) : tPar i j ta D σ H := q
theorem tail1 {te : TE} {P : List V → Hp → Prop} {P' : V → Hp → Prop} {σ : L2.St} {H : Hp} (h : P' = fun x H1 => P [x] H1) (q : te σ H P') : tCons te tNil σ H P := by
  subst h
  exact q
/-- for k in range(n) -/
def RG (D : Ends) (tb : TS) (k : Nat) (σ : L2.St) (x : V) (H1 : Hp) : Prop := ∃ n : Nat, x = .int n ∧ n ≤ 1000000 ∧ ∃ Pv : Nat → L2.St → Hp → Prop, Pv 0 σ H1 ∧
  (∀ i σ' H', i < n → Pv i σ' H' → tb { D with nx := Pv (i + 1), ct := Pv (i + 1), bk := D.nx } (σ'.set k (some (.int (i : Int)))) H') ∧ ∀ σ' H', Pv n σ' H' → D.nx σ' H'
theorem RG.go {k : Nat} {x : V} {H1 : Hp} (h : RG D tb k σ x H1) : ∃ j : Int, [x] = [V.int j] ∧ -(2 ^ 62) ≤ j ∧ j < 2 ^ 62 ∧ ∃ W : Nat → Nat → L2.St → Hp → Prop, (∃ m, W 0 m σ H1) ∧ ∀ i m σ H, W i m σ H →
    ((Itr 0 j.toNat).stop i H ∧ D.nx σ H) ∨ ((Itr 0 j.toNat).go i H ∧ ∃ N : L2.St → Hp → Prop, (∀ σ' H', N σ' H' → ∃ m', m' < m ∧ W (i + 1) m' σ' H') ∧ ∀ x H', (Itr 0 j.toNat).yld i H x H' → gName k x σ H' fun σ2 H2 => tb { D with nx := N, ct := N, bk := D.nx } σ2 H2) := by
  obtain ⟨n, rfl, hn, Pv, h0, hs, hd⟩ := h
  refine ⟨n, rfl, by omega, by omega, for_range (lo := 0) (n := (n : Int).toNat) Pv h0 (fun i σ' H' hi p => ?_) fun σ' H' p => hd σ' H' p⟩
  show tb _ (σ'.set k (some (.int (0 + (i : Int))))) H'
  rw [Int.zero_add]
  exact hs i σ' H' (by simpa using hi) p
/-- a wish that follows is enough -/
def Mono1 (te : TE) : Prop := ∀ σ H (Q Q' : VK), (∀ v H', Q v H' → Q' v H') → te σ H Q → te σ H Q'
theorem q_forR {i : Nat} {v : V} {k : Nat} (h : σ[i]? = some (some v)) (q : RG D tb k σ v H) : tFor (iRng1 (tCons (tVar i) tNil)) (gName k) tb D σ H := ⟨v, h, q.go⟩
/-- for k in range(len(xs)) -/
theorem q_forLen {i : Nat} {k : Nat} {a : Addr} {xs : List V} (h : σ[i]? = some (some (.ref a))) (hx : SqL K H a xs) (q : RG D tb k σ (.int (xs.length : Nat)) H) : tFor (iRng1 (tCons (tCB (rLenQ K) (tCons (tVar i) tNil)) tNil)) (gName k) tb D σ H :=
  ⟨.ref a, h, a, xs, rfl, .inl hx, q.go⟩
/-- for x in a list -/
def LG (K : PySem.W.Frag) (D : Ends) (tb : TS) (g : TG) (σ : L2.St) (x : V) (H1 : Hp) : Prop := ∃ (a : Addr) (xs : List V), x = .ref a ∧ SqL K H1 a xs ∧ ∃ Pv : Nat → L2.St → Hp → Prop, Pv 0 σ H1 ∧ (∀ i σ' H', i ≤ xs.length → Pv i σ' H' → SqL K H' a xs) ∧
  (∀ i x σ' H', xs[i]? = some x → Pv i σ' H' → g x σ' H' fun σ2 H2 => tb { D with nx := Pv (i + 1), ct := Pv (i + 1), bk := D.nx } σ2 H2) ∧ ∀ σ' H', Pv xs.length σ' H' → D.nx σ' H'
theorem q_forL {i : Nat} {v : V} (h : σ[i]? = some (some v)) (q : LG K D tb g σ v H) : tFor (iList K (tVar i)) g tb D σ H := by
  obtain ⟨a, xs, rfl, hx, Pv, h0, hl, hs, hd⟩ := q
  exact ⟨.ref a, h, a, rfl, ⟨xs, hx⟩, for_list Pv h0 hl hs hd⟩
def TG' (K : PySem.W.Frag) (D : Ends) (tb : TS) (g : TG) (σ : L2.St) (x : V) (H1 : Hp) : Prop := ∃ (a : Addr) (xs : List V), x = .ref a ∧ SqT K H1 a xs ∧ ∃ Pv : Nat → L2.St → Hp → Prop, Pv 0 σ H1 ∧ (∀ i σ' H', i ≤ xs.length → Pv i σ' H' → SqT K H' a xs) ∧
  (∀ i x σ' H', xs[i]? = some x → Pv i σ' H' → g x σ' H' fun σ2 H2 => tb { D with nx := Pv (i + 1), ct := Pv (i + 1), bk := D.nx } σ2 H2) ∧ ∀ σ' H', Pv xs.length σ' H' → D.nx σ' H'
theorem q_forT {i : Nat} {v : V} (h : σ[i]? = some (some v)) (q : TG' K D tb g σ v H) : tFor (iTup K (tVar i)) g tb D σ H := by
  obtain ⟨a, xs, rfl, hx, Pv, h0, hl, hs, hd⟩ := q
  exact ⟨.ref a, h, a, rfl, ⟨xs, hx⟩, for_tup Pv h0 hl hs hd⟩
/-- for i, x in enumerate(a list) -/
theorem q_forE {i a b : Nat} {v : V} (h : σ[i]? = some (some v)) (q : ∃ (p : Addr) (xs : List V), v = .ref p ∧ SqL K H p xs ∧ ∃ Pv : Nat → L2.St → Hp → Prop, Pv 0 σ H ∧ (∀ i σ' H', i ≤ xs.length → Pv i σ' H' → SqL K H' p xs) ∧
    (∀ (i : Nat) x σ' H' T, xs[i]? = some x → Pv i σ' H' → H' T = none → tb { D with nx := Pv (i + 1), ct := Pv (i + 1), bk := D.nx } ((σ'.set a (some (.int (i : Int)))).set b (some x)) (upd H' T (.tup [.int (i : Int), x]))) ∧ ∀ σ' H', Pv xs.length σ' H' → D.nx σ' H') :
    tFor (iEnum K (tCons (tVar i) tNil)) (gTup K 2 (gCons (gName a) (gCons (gName b) gNil))) tb D σ H := by
  obtain ⟨p, xs, rfl, hx, Pv, h0, hl, hs, hd⟩ := q
  refine ⟨.ref p, h, p, xs, rfl, hx, for_it walk_enum Pv h0 hl (fun i x σ' H' H2 hi pv y => ?_) hd⟩
  obtain ⟨T, u, w, rfl, hT, rfl, e1, e2⟩ := y
  cases e1
  exact ⟨T, [.int (i : Int), w], rfl, SqT.of upd_same, rfl, .int (i : Int), [w], rfl, w, [], rfl, rfl, hs i w σ' H' T e2 pv hT⟩
/-- unpacking a tuple into names -/
theorem q_g4 {a b c d : Nat} {x y z u : V} {p : Addr} {Qs : L2.St → Hp → Prop} (h : SqT K H p [x, y, z, u]) (q : Qs ((((σ.set a (some x)).set b (some y)).set c (some z)).set d (some u)) H) : gTup K 4 (gCons (gName a) (gCons (gName b) (gCons (gName c) (gCons (gName d) gNil)))) (.ref p) σ H Qs :=
  ⟨p, [x, y, z, u], rfl, h, rfl, x, _, rfl, y, _, rfl, z, _, rfl, u, _, rfl, rfl, q⟩
theorem q_g3 {a b c : Nat} {x y z : V} {p : Addr} {Qs : L2.St → Hp → Prop} (h : SqT K H p [x, y, z]) (q : Qs (((σ.set a (some x)).set b (some y)).set c (some z)) H) : gTup K 3 (gCons (gName a) (gCons (gName b) (gCons (gName c) gNil))) (.ref p) σ H Qs :=
  ⟨p, [x, y, z], rfl, h, rfl, x, _, rfl, y, _, rfl, z, _, rfl, rfl, q⟩
theorem q_g2 {a b : Nat} {x y : V} {p : Addr} {Qs : L2.St → Hp → Prop} (h : SqT K H p [x, y]) (q : Qs ((σ.set a (some x)).set b (some y)) H) : gTup K 2 (gCons (gName a) (gCons (gName b) gNil)) (.ref p) σ H Qs :=
  ⟨p, [x, y], rfl, h, rfl, x, _, rfl, y, _, rfl, rfl, q⟩
/-- xs.append(e) -/
theorem q_app {ta : TE} {tA : TA} (q : ta σ H fun x H1 => ∃ l xs, x = .ref l ∧ H1 l = some (.lst xs) ∧ tA σ H1 fun vs H2 => ∃ y ys, vs = [y] ∧ H2 l = some (.lst ys) ∧ ys.length < sizeLine ∧ Q .non (upd H2 l (.lst (ys ++ [y]))))
    (m : ∀ (P P' : List V → Hp → Prop) σ H, (∀ v H', P v H' → P' v H') → tA σ H P → tA σ H P') (m2 : ∀ (P P' : VK) σ H, (∀ v H', P v H' → P' v H') → ta σ H P → ta σ H P') : tBM K "list" rAppend ta tA σ H Q := by
  refine m2 _ _ σ H (fun x H1 h => ?_) q
  obtain ⟨l, xs, rfl, hl, h⟩ := h
  refine ⟨.inl ⟨rfl, xs, .of hl⟩, m _ _ σ H1 (fun vs H2 h2 => ?_) h⟩
  obtain ⟨y, ys, rfl, e, hz, q⟩ := h2
  exact ⟨l, ys, y, rfl, rfl, e, hz, q⟩
theorem q_appV {i : Nat} {l : Addr} {xs : List V} {tA : TA} (h : σ[i]? = some (some (.ref l))) (hl : H l = some (.lst xs)) (q : tA σ H fun vs H2 => rAppend (.ref l) vs H2 Q) : tBM K "list" rAppend (tVar i) tA σ H Q :=
  ⟨.ref l, h, .inl ⟨rfl, xs, .of hl⟩, q⟩
theorem q_rapp {l : Addr} {ys : List V} {y : V} (e : H l = some (.lst ys)) (hz : ys.length < sizeLine) (q : Q .non (upd H l (.lst (ys ++ [y])))) : rAppend (.ref l) [y] H Q := ⟨l, ys, y, rfl, rfl, e, hz, q⟩
end
theorem line_of {n : Nat} (h : n ≤ 1000000) : n < sizeLine := Nat.lt_of_le_of_lt h (by decide)
theorem line_le {n : Nat} (h : n ≤ 1000000) : n ≤ sizeLine := Nat.le_of_lt (line_of h)

theorem line_le' {n : Nat} (h : n ≤ 1000) : n ≤ 1000000 := Nat.le_trans h (by decide)
/-! ### lists by functions -/
def flV (F : Nat → V) (k : Nat) : List V := (List.range k).map F
theorem flV_len (F : Nat → V) (k : Nat) : (flV F k).length = k := by
  unfold flV
  rw [List.length_map, List.length_range]
theorem flV_get {F : Nat → V} {k i : Nat} (h : i < k) : (flV F k)[i]? = some (F i) := by
  unfold flV
  rw [List.getElem?_map, List.getElem?_range h]
  rfl
theorem flV_set {F : Nat → V} {k i : Nat} (v : V) : (flV F k).set i v = flV (Kw.put F i v) k := by
  apply List.ext_getElem?
  intro j
  by_cases hj : j < k
  · rw [flV_get hj]
    by_cases e : i = j
    · subst e
      rw [List.getElem?_set_self (by rw [flV_len]; exact hj), Kw.put_same]
    · rw [List.getElem?_set_ne e, flV_get hj, Kw.put_ne (fun z => e z.symm)]
  · rw [List.getElem?_eq_none (by rw [List.length_set, flV_len]; omega), List.getElem?_eq_none (by rw [flV_len]; omega)]
theorem flV_snoc (F : Nat → V) (k : Nat) : flV F k ++ [F k] = flV F (k + 1) := by
  unfold flV
  rw [List.range_succ, List.map_append]
  rfl
theorem flV_congr {F G : Nat → V} {k : Nat} (h : ∀ i, i < k → F i = G i) : flV F k = flV G k := by
  unfold flV
  exact List.map_congr_left fun i hi => h i (List.mem_range.mp hi)
theorem ixN_of {n j : Nat} (h : j < n) : ixN n (j : Int) = some j := by
  unfold ixN
  rw [if_pos (by omega), if_pos (by omega)]
  rfl
theorem q_gname {k : Nat} {v : V} {σ : L2.St} {H : Hp} {Qs : L2.St → Hp → Prop} (q : Qs (σ.set k (some v)) H) : gName k v σ H Qs := q
theorem q_set {H : Hp} {l : Addr} {xs : List V} {j : Nat} {v : V} {Qh : Hp → Prop} (h : H l = some (.lst xs)) (hj : j < xs.length) (q : Qh (upd H l (.lst (xs.set j v)))) : rSetL (.ref l) (.int (j : Int)) v H Qh :=
  ⟨l, xs, (j : Int), j, rfl, rfl, h, ixN_of hj, q⟩

/-! ### rows, arcs -/
structure RowsAt (K : PySem.W.Frag) (H : Hp) (a : Addr) (R : Nat → Kw.Row) (n : Nat) : Prop where
  ex : ∃ vs, H a = some (.lst vs) ∧ vs.length = n ∧ ∀ i, i < n → ∃ p, vs[i]? = some (.ref p) ∧ SqT K H p [.int (R i).f, .int (R i).s, oV (R i).lo, oV (R i).hi, oV (R i).rm]
theorem RowsAt.same {K : PySem.W.Frag} {H H' : Hp} {a : Addr} {R : Nat → Kw.Row} {n : Nat} (h : RowsAt K H a R n) (e : Same H H') : RowsAt K H' a R n := by
  obtain ⟨vs, h1, h2, h3⟩ := h.ex
  refine ⟨vs, e _ _ h1, h2, fun i hi => ?_⟩
  obtain ⟨p, q1, q2⟩ := h3 i hi
  exact ⟨p, q1, Same.sqt e q2⟩
/-- an arc as a tuple; full: with its link -/
def arcP (K : PySem.W.Frag) (H : Hp) (full : Bool) (v : V) (a : Kw.Arc) : Prop := ∃ p x, v = .ref p ∧ SqT K H p [.int a.s, .int a.e, .int a.l, x] ∧ (full = true → ∃ q, x = .ref q ∧ SqT K H q [.int a.ix, .int a.sg])
theorem arcP.same {K : PySem.W.Frag} {H H' : Hp} {full : Bool} {v : V} {a : Kw.Arc} (h : arcP K H full v a) (e : Same H H') : arcP K H' full v a := by
  obtain ⟨p, x, h1, h2, h3⟩ := h
  refine ⟨p, x, h1, Same.sqt e h2, fun z => ?_⟩
  obtain ⟨q, q1, q2⟩ := h3 z
  exact ⟨q, q1, Same.sqt e q2⟩
abbrev ArcVs (K : PySem.W.Frag) (H : Hp) (full : Bool) (vs : List V) (as : List Kw.Arc) : Prop := Paired (arcP K H full) vs as
theorem ArcVs.same {K : PySem.W.Frag} {H H' : Hp} {full : Bool} (e : Same H H') : ∀ {vs : List V} {as : List Kw.Arc}, ArcVs K H full vs as → ArcVs K H' full vs as
  | _, _, .nil => .nil
  | _, _, .cons r t => .cons (r.same e) (ArcVs.same e t)
theorem Paired.app {α β : Type} {G : α → β → Prop} : ∀ {l₁ : List α} {l₂ : List β} {m₁ : List α} {m₂ : List β}, Paired G l₁ l₂ → Paired G m₁ m₂ → Paired G (l₁ ++ m₁) (l₂ ++ m₂)
  | _, _, _, _, .nil, s => s
  | _, _, _, _, .cons r t, s => .cons r (Paired.app t s)
/-! ### what is kept -/
def Keep (W : Addr → Prop) (H H' : Hp) : Prop := ∀ b o, ¬ W b → H b = some o → H' b = some o
theorem Keep.refl (W : Addr → Prop) (H : Hp) : Keep W H H := fun _ _ _ h => h
theorem Keep.trans {W : Addr → Prop} {H H1 H2 : Hp} (a : Keep W H H1) (b : Keep W H1 H2) : Keep W H H2 := fun c o w h => b c o w (a c o w h)
theorem Same.keep {W : Addr → Prop} {H H' : Hp} (a : Same H H') : Keep W H H' := fun b o _ h => a b o h
theorem Keep.upd {W : Addr → Prop} {H H' : Hp} {a : Addr} {o : HO} (k : Keep W H H') (h : W a) : Keep W H (upd H' a o) := fun b u w e => by
  rw [upd_ne (fun z => w (by rw [z]; exact h))]
  exact k b u w e
theorem Keep.sqt {W : Addr → Prop} {K : PySem.W.Frag} {H H' : Hp} (k : Keep W H H') (l : ∀ b, W b → ∃ xs, H b = some (.lst xs)) {p : Addr} {xs : List V} (h : SqT K H p xs) : SqT K H' p xs := by
  have nw : ∀ u, H p = some u → (∀ ys, u ≠ .lst ys) → H' p = some u := fun u e n => k p u (fun w => by
    obtain ⟨ys, hy⟩ := l p w
    rw [hy] at e
    cases e
    exact n ys rfl) e
  rcases h with (h | ⟨o, h⟩) | h
  · exact .inl (.inl (nw _ h fun _ z => nomatch z))
  · exact .inl (.inr ⟨o, nw _ h fun _ z => nomatch z⟩)
  · exact .inr h
theorem Keep.arc {W : Addr → Prop} {K : PySem.W.Frag} {H H' : Hp} (k : Keep W H H') (l : ∀ b, W b → ∃ xs, H b = some (.lst xs)) {full : Bool} {v : V} {a : Kw.Arc} (h : arcP K H full v a) : arcP K H' full v a := by
  obtain ⟨p, x, h1, h2, h3⟩ := h
  refine ⟨p, x, h1, k.sqt l h2, fun z => ?_⟩
  obtain ⟨q, q1, q2⟩ := h3 z
  exact ⟨q, q1, k.sqt l q2⟩
/-- a list that is read and not among the written -/
theorem Keep.sql {W : Addr → Prop} {K : PySem.W.Frag} {H H' : Hp} (k : Keep W H H') {p : Addr} {xs : List V} (n : ¬ W p) (h : SqL K H p xs) : SqL K H' p xs := by
  rcases h with (h | ⟨o, h⟩) | h
  · exact .inl (.inl (k _ _ n h))
  · exact .inl (.inr ⟨o, k _ _ n h⟩)
  · exact .inr h
theorem Keep.mono {W W' : Addr → Prop} {H H' : Hp} (k : Keep W H H') (h : ∀ b, W b → W' b) : Keep W' H H' := fun b o w e => k b o (fun z => w (h b z)) e
theorem Keep.rows {W : Addr → Prop} {K : PySem.W.Frag} {H H' : Hp} (k : Keep W H H') (l : ∀ b, W b → ∃ xs, H b = some (.lst xs)) {a : Addr} (n : ¬ W a) {R : Nat → Kw.Row} {m : Nat} (h : RowsAt K H a R m) : RowsAt K H' a R m := by
  obtain ⟨vs, h1, h2, h3⟩ := h.ex
  refine ⟨vs, k _ _ n h1, h2, fun i hi => ?_⟩
  obtain ⟨p, q1, q2⟩ := h3 i hi
  exact ⟨p, q1, k.sqt l q2⟩
/-- a link as a tuple -/
def linkP (K : PySem.W.Frag) (H : Hp) (v : V) (a : Kw.Arc) : Prop := ∃ q, v = .ref q ∧ SqT K H q [.int a.ix, .int a.sg]
abbrev LinkVs (K : PySem.W.Frag) (H : Hp) (vs : List V) (as : List Kw.Arc) : Prop := Paired (linkP K H) vs as
theorem Keep.link {W : Addr → Prop} {K : PySem.W.Frag} {H H' : Hp} (k : Keep W H H') (l : ∀ b, W b → ∃ xs, H b = some (.lst xs)) {vs : List V} {as : List Kw.Arc} (h : LinkVs K H vs as) : LinkVs K H' vs as :=
  Paired.mapP h fun v a ⟨q, e, t⟩ => ⟨q, e, k.sqt l t⟩
theorem Keep.arcs {W : Addr → Prop} {K : PySem.W.Frag} {H H' : Hp} (k : Keep W H H') (l : ∀ b, W b → ∃ xs, H b = some (.lst xs)) {full : Bool} {vs : List V} {as : List Kw.Arc} (h : ArcVs K H full vs as) : ArcVs K H' full vs as :=
  Paired.mapP h fun v a z => k.arc l z
theorem Paired.rev {α β : Type} {G : α → β → Prop} : ∀ {l₁ : List α} {l₂ : List β}, Paired G l₁ l₂ → Paired G l₁.reverse l₂.reverse
  | _, _, .nil => .nil
  | _, _, .cons r t => by
    rw [List.reverse_cons, List.reverse_cons]
    exact Paired.app (Paired.rev t) (.cons r .nil)
theorem paired_r {α β : Type} {G : α → β → Prop} {l₁ : List α} {l₂ : List β} (h : Paired G l₁ l₂) : ∀ {i : Nat} {a : α}, l₁[i]? = some a → ∃ b, l₂[i]? = some b ∧ G a b := fun e => paired_get h e
section
variable {K : PySem.W.Frag} {σ : L2.St} {H : Hp} {Q : VK} {D : Ends} {i j : Int} {v : V} {p : Addr} {xs : List V}
theorem q_augS {to ti te : TE} {tget : V → V → Hp → VK → Prop} {tip : TIp} {tset : TSet} (q : to σ H fun o H1 => ti σ H1 fun i H2 => tget o i H2 fun x H3 => te σ H3 fun y H4 => tip x y H4 fun z H5 => tset o i z H5 fun H6 => D.nx σ H6) : tAugS to ti te tget tip tset D σ H := q
theorem q_getN {n : Nat} (h : H p = some (.lst xs)) (e : xs[n]? = some v) (q : Q v H) : rGetL K (.ref p) (.int (n : Int)) H Q := ⟨p, xs, (n : Int), v, rfl, rfl, .of h, by omega, atI_nat e, q⟩
theorem q_ip {f : Int → Int → Int} (q : Q (.int (f i j)) H) : ipI f (.int i) (.int j) H Q := ⟨i, j, rfl, rfl, q⟩
theorem q_setG {to ti : TE} {r : TSet} {Qs : L2.St → Hp → Prop} (q : to σ H fun o H1 => ti σ H1 fun i H2 => r o i v H2 fun H3 => Qs σ H3) : gSub to ti r v σ H Qs := q
theorem cmul_l {i j : Int} (h : -(2 ^ 64) < i ∧ i < 2 ^ 64) : CMul i j := .inl h
end
end Kt

/-! Comprehensions step by step. -/
namespace Kt
open PySem PySem.Spec PyProof.Rows L2
theorem wipe1 {σ : L2.St} {k : Nat} {x : V} : wipe ((wipe σ [k]).set k (some x)) [k] = wipe σ [k] := by
  show (((σ.set k none).set k (some x)).set k none) = σ.set k none
  rw [List.set_set, List.set_set]
section
variable {K : PySem.W.Frag} {σ : L2.St} {H : Hp} {Q : VK} {te : TE} {tt : TT} {g : TG} {ws : List Nat}
theorem q_yes {QT : Bool → Hp → Prop} (q : QT true H) : tYes σ H QT := q
/-- [e for k in range(n)]; Pv: the turn, the heap -/
def RC (te : TE) (tt : TT) (k : Nat) (σ : L2.St) (x : V) (H1 : Hp) (Q : VK) : Prop := ∃ n : Nat, x = .int n ∧ n ≤ 1000000 ∧ ∀ Dl, H1 Dl = none → ∃ Pv : Nat → Hp → Prop, Pv 0 (upd H1 Dl (.lst [])) ∧
  (∀ i H', i < n → Pv i H' → tt ((wipe σ [k]).set k (some (.int (i : Int)))) H' fun b H3 => if b = true then te ((wipe σ [k]).set k (some (.int (i : Int)))) H3 fun y H4 => ∃ acc, H4 Dl = some (.lst acc) ∧ acc.length < sizeLine ∧ Pv (i + 1) (upd H4 Dl (.lst (acc ++ [y]))) else Pv (i + 1) H3) ∧ ∀ H', Pv n H' → Q (.ref Dl) H'
theorem RC.go {k : Nat} {x : V} {H1 : Hp} (h : RC te tt k σ x H1 Q) : ∃ j : Int, [x] = [V.int j] ∧ -(2 ^ 62) ≤ j ∧ j < 2 ^ 62 ∧ ∀ D, H1 D = none → ∃ W : Nat → Nat → Hp → Prop, (∃ m, W 0 m (upd H1 D (.lst []))) ∧ ∀ i m H, W i m H →
    ((Itr 0 j.toNat).stop i H ∧ Q (.ref D) H) ∨ ((Itr 0 j.toNat).go i H ∧ ∃ Nx : Hp → Prop, (∀ H', Nx H' → ∃ m', m' < m ∧ W (i + 1) m' H') ∧ ∀ x H', (Itr 0 j.toNat).yld i H x H' → gName k x (wipe σ [k]) H' fun σ2 H2 => wipe σ2 [k] = wipe σ [k] ∧ tt σ2 H2 fun b H3 =>
      if b = true then te σ2 H3 fun y H4 => ∃ acc, H4 D = some (.lst acc) ∧ acc.length < sizeLine ∧ Nx (upd H4 D (.lst (acc ++ [y]))) else Nx H3) := by
  obtain ⟨n, rfl, hn, h⟩ := h
  refine ⟨n, rfl, by omega, by omega, fun Dl hD => ?_⟩
  obtain ⟨Pv, h0, hs, hd⟩ := h Dl hD
  refine lc_range (lo := 0) (n := (n : Int).toNat) Pv h0 (fun i H' hi p => ?_) hd
  refine ⟨wipe1, ?_⟩
  rw [Int.zero_add]
  exact hs i H' (by simpa using hi) p
theorem q_lcR {i k : Nat} {v : V} (h : σ[i]? = some (some v)) (q : RC te tt k σ v H Q) : tLc (iRng1 (tCons (tVar i) tNil)) (gName k) tt te [k] σ H Q := ⟨v, h, q.go⟩
theorem q_lcRL {i k : Nat} {a : Addr} {xs : List V} (h : σ[i]? = some (some (.ref a))) (hx : SqL K H a xs) (q : RC te tt k σ (.int (xs.length : Nat)) H Q) : tLc (iRng1 (tCons (tCB (rLenQ K) (tCons (tVar i) tNil)) tNil)) (gName k) tt te [k] σ H Q := ⟨.ref a, h, a, xs, rfl, .inl hx, q.go⟩
/-- a constant n times -/
theorem q_lcC {i k n : Nat} {c : V} (h : σ[i]? = some (some (.int (n : Nat)))) (hn : n ≤ 1000000) (q : ∀ p, H p = none → Q (.ref p) (upd H p (.lst (flV (fun _ => c) n)))) : tLc (iRng1 (tCons (tVar i) tNil)) (gName k) tYes (tC c) [k] σ H Q := by
  refine q_lcR h ⟨n, rfl, hn, fun Dl hD => ⟨fun i H' => i ≤ n ∧ H' = upd H Dl (.lst (flV (fun _ => c) i)), ⟨Nat.zero_le _, rfl⟩, ?_, ?_⟩⟩
  · rintro i H' hi ⟨_, rfl⟩
    refine q_yes ?_
    refine ift rfl ?_
    refine ⟨flV (fun _ => c) i, upd_same, by rw [flV_len]; exact line_of (by omega), hi, ?_⟩
    rw [upd_upd]
    congr 1
    show HO.lst (flV (fun _ => c) i ++ [(fun _ => c) i]) = _
    rw [flV_snoc]
  · rintro H' ⟨_, rfl⟩
    exact q Dl hD
/-- [e for x in a list] -/
theorem q_lcL {i : Nat} {a : Addr} {xs : List V} (h : σ[i]? = some (some (.ref a))) (hx : SqL K H a xs) (q : ∀ Dl, H Dl = none → ∃ Pv : Nat → Hp → Prop, Pv 0 (upd H Dl (.lst [])) ∧ (∀ i H', i ≤ xs.length → Pv i H' → SqL K H' a xs) ∧
    (∀ i x H', xs[i]? = some x → Pv i H' → g x (wipe σ ws) H' fun σ2 H2 => wipe σ2 ws = wipe σ ws ∧ tt σ2 H2 fun b H3 => if b = true then te σ2 H3 fun y H4 => ∃ acc, H4 Dl = some (.lst acc) ∧ acc.length < sizeLine ∧ Pv (i + 1) (upd H4 Dl (.lst (acc ++ [y]))) else Pv (i + 1) H3) ∧ ∀ H', Pv xs.length H' → Q (.ref Dl) H') :
    tLc (iList K (tVar i)) g tt te ws σ H Q := by
  refine ⟨.ref a, h, a, rfl, ⟨xs, hx⟩, fun Dl hD => ?_⟩
  obtain ⟨Pv, h0, hl, hs, hd⟩ := q Dl hD
  exact lc_list Pv h0 hl hs hd
theorem q_lcT {te0 : TE} {a : Addr} {xs : List V} (hx : SqT K H a xs) (h : ∀ Qv : VK, Qv (.ref a) H → te0 σ H Qv) (q : ∀ Dl, H Dl = none → ∃ Pv : Nat → Hp → Prop, Pv 0 (upd H Dl (.lst [])) ∧ (∀ i H', i ≤ xs.length → Pv i H' → SqT K H' a xs) ∧
    (∀ i x H', xs[i]? = some x → Pv i H' → g x (wipe σ ws) H' fun σ2 H2 => wipe σ2 ws = wipe σ ws ∧ tt σ2 H2 fun b H3 => if b = true then te σ2 H3 fun y H4 => ∃ acc, H4 Dl = some (.lst acc) ∧ acc.length < sizeLine ∧ Pv (i + 1) (upd H4 Dl (.lst (acc ++ [y]))) else Pv (i + 1) H3) ∧ ∀ H', Pv xs.length H' → Q (.ref Dl) H') :
    tLc (iTup K te0) g tt te ws σ H Q := by
  refine h _ ⟨a, rfl, ⟨xs, hx⟩, fun Dl hD => ?_⟩
  obtain ⟨Pv, h0, hl, hs, hd⟩ := q Dl hD
  exact lc_tup Pv h0 hl hs hd
end
end Kt

namespace Kt
open PySem PySem.Spec PyProof.Rows L2
local macro_rules
  | `(tactic| walk_at "sx") => `(tactic| repeat (first
    | with_reducible refine q_seq ?_ | with_reducible refine q_par ?_ | with_reducible refine q_augS ?_ | with_reducible refine q_rev ?_ | with_reducible refine q_yes ?_ | with_reducible refine q_gname ?_ | with_reducible refine q_setG ?_ | with_reducible refine q_ip ?_ | with_reducible refine q_asg ?_ | with_reducible refine q_asgG ?_ | with_reducible refine q_ret ?_ | with_reducible refine q_drop ?_ | with_reducible refine q_if ?_ | with_reducible refine q_next ?_
    | with_reducible refine q_test ?_ | with_reducible refine q_tB ?_ | with_reducible refine q_chain ?_ | with_reducible refine q_andV ?_ | with_reducible refine q_bl ?_ | with_reducible refine q_exint ?_ | ((with_reducible show tAug _ _ _ _ _ _); refine q_aug rfl ?_) | with_reducible refine q_not ?_ | with_reducible refine q_and ?_ | with_reducible refine q_or ?_
    | with_reducible refine q_op ?_ | with_reducible refine q_un ?_ | with_reducible refine q_c ?_ | ((with_reducible show tVar _ _ _ _); refine q_var rfl ?_)
    | with_reducible refine q_i0 ?_ | with_reducible refine q_u ?_ | with_reducible refine q_eq ?_ | with_reducible refine q_ne ?_ | with_reducible refine q_isN ?_ | with_reducible refine q_notN ?_ | with_reducible refine q_min2 ?_ | with_reducible refine q_abs ?_ | with_reducible refine q_int ?_
    | with_reducible refine q_nil ?_ | with_reducible refine q_cons ?_ | with_reducible refine q_tup ?_ | with_reducible refine q_lst ?_ | with_reducible refine q_call ?_ | with_reducible refine q_makeN ?_ | with_reducible refine q_make ?_ | with_reducible refine q_cb ?_
    | ((with_reducible show ite _ _ _); first | refine ift rfl ?_ | refine iff' rfl ?_)))
/-! ### negated, raising, change_of, lesser -/
-- slots: 0 bound
abbrev s_negated : Stmt := topS 23
theorem sc_negated : FnScope ["bound"] ["bound"] (defScope s_negated) := ⟨rfl, rfl, rfl, by decide +kernel, rfl, by decide +kernel, by decide +kernel⟩
-- slots: 0 low 1 high 2 room 3 flow
abbrev s_raising : Stmt := topS 24
theorem sc_raising : FnScope ["low", "high", "room", "flow"] ["low", "high", "room", "flow"] (defScope s_raising) := ⟨rfl, rfl, rfl, by decide +kernel, rfl, by decide +kernel, by decide +kernel⟩
-- slots: 0 row 1 flow 2 sign
abbrev s_change_of : Stmt := topS 25
theorem sc_change_of : FnScope ["row", "flow", "sign"] ["row", "flow", "sign"] (defScope s_change_of) := ⟨rfl, rfl, rfl, by decide +kernel, rfl, by decide +kernel, by decide +kernel⟩
-- slots: 0 units 1 other
abbrev s_lesser : Stmt := topS 27
theorem sc_lesser : FnScope ["units", "other"] ["units", "other"] (defScope s_lesser) := ⟨rfl, rfl, rfl, by decide +kernel, rfl, by decide +kernel, by decide +kernel⟩
section
variable {P : Program} {w : World} {K : PySem.W.Frag} {mg : Str → Option Value} {base : Heap}
def spNegated : Sp := fun vs H Q _ => ∃ o : Option Int, vs = [oV o] ∧ Q (oV (Kw.ngo o)) H
theorem ok_negated (D : Dk K mg "negated" s_negated) : Has P w K mg base CX0 1 "negated" ["bound"] spNegated := by
  have sc := sc_negated
  refine D.has0 sc (fun vs H Q E h => ?_) (fun _ _ _ _ _ _ us hl => match us, hl with | [_], _ => rfl) (fun f cdv A outer s H vs Q E hr h => ?_)
  · obtain ⟨o, rfl, _⟩ := h
    rfl
  · obtain ⟨o, rfl, q⟩ := h
    refine ⟨_, (pss_cons (ps_if (pt_cmpR o_isN (pv 0) pe_non (nomark _)) (pss_one (ps_ret pe_non)) pss_nil)
       (pss_one (ps_ret (pe_un un_neg (pv 0))))), ?_⟩
    cases o with
    | none =>
      walk_at "sx"
      exact q
    | some b =>
      walk_at "sx"
      exact q
/-- a change: None, or a new tuple of the length and the units -/
def chR (o : Option (Int × Option Int)) (Q : VK) (H : Hp) : Prop := match o with
  | none => Q .non H
  | some (l, u) => ∀ p, H p = none → Q (.ref p) (upd H p (.tup [.int l, oV u]))
def spRaising : Sp := fun vs H Q _ => ∃ (lo hi rm : Option Int) (x : Int), vs = [oV lo, oV hi, oV rm, .int x] ∧ (x < 0 → lo ≠ none) ∧ chR (Kw.raising lo hi rm x) Q H
theorem two_line : (2 : Nat) ≤ sizeLine := by decide
theorem ok_raising (D : Dk K mg "raising" s_raising) : Has P w K mg base CX0 1 "raising" ["low", "high", "room", "flow"] spRaising := by
  have sc := sc_raising
  refine D.has0 sc (fun vs H Q E h => ?_) (fun _ _ _ _ _ _ us hl => match us, hl with | [_, _, _, _], _ => rfl) (fun f cdv A outer s H vs Q E hr h => ?_)
  · obtain ⟨lo, hi, rm, x, rfl, _⟩ := h
    rfl
  · obtain ⟨lo, hi, rm, x, rfl, hl, q⟩ := h
    refine ⟨_, (pss_cons (ps_if (pt_cmpR op_lt (pv 3) pe_int (nomark _)) (pss_one (ps_ret (pe_tup (pa_cons (pv 0) (pa_cons (pe_un un_neg (pv 3)) pa_nil))))) pss_nil)
       (pss_cons (ps_if (pt_cmpR o_isN (pv 1) pe_non (nomark _)) (pss_one (ps_ret pe_non)) pss_nil)
       (pss_cons (ps_if (pt_cmpR o_isN (pv 2) pe_non (nomark _)) (pss_one (ps_ret (pe_tup (pa_cons (pv 1) (pa_cons pe_non pa_nil))))) pss_nil)
       (pss_cons (ps_if (pt_cmpR op_ge (pv 3) (pv 2) (nomark _)) (pss_one (ps_ret pe_non)) pss_nil)
       (pss_one (ps_ret (pe_tup (pa_cons (pv 1) (pa_cons (pe_op op_sub (pv 2) (pv 3)) pa_nil))))))))), ?_⟩
    walk_at "sx"
    refine ifd (fun h0 => ?_) (fun h0 => ?_)
    · rw [Kw.raise_neg h0] at q
      cases lo with
      | none => exact absurd rfl (hl h0)
      | some a =>
        walk_at "sx"
        exact ⟨two_line, q⟩
    · rw [Kw.raise_pos h0] at q
      cases hi with
      | none =>
        walk_at "sx"
        exact q
      | some b =>
        cases rm with
        | none =>
          walk_at "sx"
          exact ⟨two_line, q⟩
        | some m =>
          walk_at "sx"
          dsimp only at q
          refine ifd (fun h1 => ?_) (fun h1 => ?_)
          · rw [if_pos h1] at q
            walk_at "sx"
            exact q
          · rw [if_neg h1] at q
            walk_at "sx"
            exact ⟨two_line, q⟩
/-- a row of the flows -/
def rowVs (r : Kw.Row) : List V := [.int r.f, .int r.s, oV r.lo, oV r.hi, oV r.rm]
def spChange (K : PySem.W.Frag) : Sp := fun vs H Q _ => ∃ (a : Addr) (r : Kw.Row) (x sg : Int), vs = [.ref a, .int x, .int sg] ∧ SqT K H a (rowVs r) ∧ (sg = 1 ∨ sg = -1) ∧ Kw.FlowOk r x ∧ chR (Kw.chg r x sg) Q H
theorem ok_change_of (D : Dk K mg "change_of" s_change_of) (h_raising : Has P w K mg base CX0 1 "raising" ["low", "high", "room", "flow"] spRaising) (h_negated : Has P w K mg base CX0 1 "negated" ["bound"] spNegated) :
    Has P w K mg base CX0 2 "change_of" ["row", "flow", "sign"] (spChange K) := by
  have sc := sc_change_of
  refine D.has0 sc (fun vs H Q E h => ?_) (fun _ _ _ _ _ _ us hl => match us, hl with | [_, _, _], _ => rfl) (fun f cdv A outer s H vs Q E hr h => ?_)
  · obtain ⟨a, r, x, sg, rfl, _⟩ := h
    rfl
  · obtain ⟨a, r, x, sg, rfl, hT, hs, hf, q⟩ := h
    refine ⟨_, (pss_cons (ps_if (pt_cmpR op_eq (pv 2) pe_int (nomark _)) (pss_one (ps_ret (pe_has h_raising (hr.mono (by decide)) pass0 (pa_cons (pe_ixT (K := K) rfl (pv 0) pe_int (fun _ _ => rfl)) (pa_cons (pe_ixT (K := K) rfl (pv 0) pe_int (fun _ _ => rfl)) (pa_cons (pe_ixT (K := K) rfl (pv 0) pe_int (fun _ _ => rfl)) (pa_cons (pv 1) pa_nil))))))) pss_nil)
       (pss_one (ps_ret (pe_has h_raising (hr.mono (by decide)) pass0 (pa_cons (pe_has h_negated (hr.mono (by decide)) pass0 (pa_cons (pe_ixT (K := K) rfl (pv 0) pe_int (fun _ _ => rfl)) pa_nil)) (pa_cons (pe_has h_negated (hr.mono (by decide)) pass0 (pa_cons (pe_ixT (K := K) rfl (pv 0) pe_int (fun _ _ => rfl)) pa_nil)) (pa_cons (pe_ixT (K := K) rfl (pv 0) pe_int (fun _ _ => rfl)) (pa_cons (pe_un un_neg (pv 1)) pa_nil)))))))), ?_⟩
    walk_at "sx"
    refine ifd (fun h0 => ?_) (fun h0 => ?_)
    · rw [h0, Kw.chg_up] at q
      walk_at "sx"
      refine q_ixT hT rfl ?_
      walk_at "sx"
      refine q_ixT hT rfl ?_
      walk_at "sx"
      refine q_ixT hT rfl ?_
      walk_at "sx"
      exact ⟨r.lo, r.hi, r.rm, x, rfl, hf.lo, q⟩
    · have h1 : sg = -1 := by omega
      rw [h1, Kw.chg_dn] at q
      walk_at "sx"
      refine q_ixT hT rfl ?_
      walk_at "sx"
      refine ⟨r.hi, rfl, ?_⟩
      walk_at "sx"
      refine q_ixT hT rfl ?_
      walk_at "sx"
      refine ⟨r.lo, rfl, ?_⟩
      walk_at "sx"
      refine q_ixT hT rfl ?_
      walk_at "sx"
      exact ⟨_, _, r.rm, -x, rfl, fun z => fun e => hf.hi (by omega) (Kw.ngo_none.mp e), q⟩
def spLesser : Sp := fun vs H Q _ => ∃ u o : Option Int, vs = [oV u, oV o] ∧ Q (oV (Kw.lesser u o)) H
theorem ok_lesser (D : Dk K mg "lesser" s_lesser) (fr : Fr mg) : Has P w K mg base CX0 1 "lesser" ["units", "other"] spLesser := by
  have sc := sc_lesser
  refine D.has0 sc (fun vs H Q E h => ?_) (fun _ _ _ _ _ _ us hl => match us, hl with | [_, _], _ => rfl) (fun f cdv A outer s H vs Q E hr h => ?_)
  · obtain ⟨u, o, rfl, _⟩ := h
    rfl
  · obtain ⟨u, o, rfl, q⟩ := h
    refine ⟨_, (pss_cons (ps_if (pt_cmpR o_isN (pv 0) pe_non (nomark _)) (pss_one (ps_ret (pv 1))) pss_nil)
       (pss_cons (ps_if (pt_cmpR o_isN (pv 1) pe_non (nomark _)) (pss_one (ps_ret (pv 0))) pss_nil)
       (pss_one (ps_ret (pe_callB (id := "min") (c_min2 rfl) (by rfl) fr.min (by decide +kernel) (pa_cons (pv 0) (pa_cons (pv 1) pa_nil))))))), ?_⟩
    cases u with
    | none =>
      walk_at "sx"
      exact q
    | some a =>
      cases o with
      | none =>
        walk_at "sx"
        exact q
      | some b =>
        walk_at "sx"
        exact q
end
end Kt

namespace Kt
open PySem PySem.Spec PyProof.Rows L2
local macro_rules
  | `(tactic| walk_at "sx") => `(tactic| repeat (first
    | with_reducible refine q_seq ?_ | with_reducible refine q_par ?_ | with_reducible refine q_augS ?_ | with_reducible refine q_rev ?_ | with_reducible refine q_yes ?_ | with_reducible refine q_gname ?_ | with_reducible refine q_setG ?_ | with_reducible refine q_ip ?_ | with_reducible refine q_asg ?_ | with_reducible refine q_asgG ?_ | with_reducible refine q_ret ?_ | with_reducible refine q_drop ?_ | with_reducible refine q_if ?_ | with_reducible refine q_next ?_
    | with_reducible refine q_test ?_ | with_reducible refine q_tB ?_ | with_reducible refine q_chain ?_ | with_reducible refine q_andV ?_ | with_reducible refine q_bl ?_ | with_reducible refine q_exint ?_ | ((with_reducible show tAug _ _ _ _ _ _); refine q_aug rfl ?_) | with_reducible refine q_not ?_ | with_reducible refine q_and ?_ | with_reducible refine q_or ?_
    | with_reducible refine q_op ?_ | with_reducible refine q_un ?_ | with_reducible refine q_c ?_ | ((with_reducible show tVar _ _ _ _); refine q_var rfl ?_)
    | with_reducible refine q_i0 ?_ | with_reducible refine q_u ?_ | with_reducible refine q_eq ?_ | with_reducible refine q_ne ?_ | with_reducible refine q_isN ?_ | with_reducible refine q_notN ?_ | with_reducible refine q_min2 ?_ | with_reducible refine q_abs ?_ | with_reducible refine q_int ?_
    | with_reducible refine q_nil ?_ | with_reducible refine q_cons ?_ | with_reducible refine q_tup ?_ | with_reducible refine q_lst ?_ | with_reducible refine q_call ?_ | with_reducible refine q_makeN ?_ | with_reducible refine q_make ?_ | with_reducible refine q_cb ?_
    | ((with_reducible show ite _ _ _); first | refine ift rfl ?_ | refine iff' rfl ?_)))
-- slots: 0 rows 1 flows 2 arcs 3 index 4 first 5 second 6 up 7 down
abbrev s_left_arcs : Stmt := topS 26
theorem sc_left_arcs : FnScope ["rows", "flows", "arcs", "index", "first", "second", "up", "down"] ["rows", "flows"] (defScope s_left_arcs) := ⟨rfl, rfl, rfl, by decide +kernel, rfl, by decide +kernel, by decide +kernel⟩
section
variable {P : Program} {w : World} {K : PySem.W.Frag} {mg : Str → Option Value} {base : Heap}
/-- the flows' list -/
def FlAt (K : PySem.W.Frag) (H : Hp) (a : Addr) (F : Nat → Int) (k : Nat) : Prop := SqL K H a (flV (fun i => .int (F i)) k)
def spLeft (K : PySem.W.Frag) : Sp := fun vs H Q _ => ∃ (ra fa : Addr) (R : Nat → Kw.Row) (F : Nat → Int) (n k : Nat), vs = [.ref ra, .ref fa] ∧ RowsAt K H ra R n ∧ FlAt K H fa F k ∧ k ≤ n ∧ k ≤ 1000 ∧ (∀ i, i < k → Kw.FlowOk (R i) (F i)) ∧
  ∀ H' o as, Same H H' → H o = none → H' o = some (.lst as) → ArcVs K H' true as (Kw.lArcs R F k) → Q (.ref o) H'
theorem lArcs_len (R : Nat → Kw.Row) (F : Nat → Int) : ∀ k, (Kw.lArcs R F k).length ≤ 2 * k
  | 0 => Nat.le_refl _
  | k + 1 => by
    have h1 : ∀ sg, (Kw.arc1 (R k) k (F k) sg).length ≤ 1 := fun sg => by
      unfold Kw.arc1
      split
      · exact Nat.le_refl _
      · exact Nat.zero_le _
    unfold Kw.lArcs
    rw [List.length_append, List.length_append]
    have := lArcs_len R F k
    have := h1 1
    have := h1 (-1)
    omega
theorem arc1_len (r : Kw.Row) (i : Nat) (x sg : Int) : (Kw.arc1 r i x sg).length ≤ 1 := by
  unfold Kw.arc1
  split
  · exact Nat.le_refl _
  · exact Nat.zero_le _
theorem Same.mut {H H' : Hp} {p : Addr} {o : HO} (e : Same H H') (h : H p = none) : Same H (upd H' p o) := fun a u ha => by
  rw [upd_ne (ne_of_none ha h)]
  exact e a u ha
/-- an arc's tuple is made and put behind the list at o -/
theorem put_arc {H0 H : Hp} {o : Addr} {vs : List V} {as : List Kw.Arc} {l : Int} {st en i : Nat} {sg : Int} (s0 : Same H0 H) (no : H0 o = none) (ho : H o = some (.lst vs)) (hv : ArcVs K H true vs as) (hz : vs.length < sizeLine) {p q : Addr} (hp : H p = none) (hq : upd H p (.tup [.int i, .int sg]) q = none) {Rr : V → Hp → Prop}
    (k : ∀ H' vs', Same H0 H' → H' o = some (.lst vs') → ArcVs K H' true vs' (as ++ [⟨st, en, l, i, sg⟩]) → Rr .non H') :
    rAppend (.ref o) [.ref q] (upd (upd H p (.tup [.int i, .int sg])) q (.tup [.int st, .int en, .int l, .ref p])) Rr := by
  have s1 : Same H (upd H p (.tup [.int i, .int sg])) := same_upd hp
  have s2 : Same (upd H p (.tup [.int i, .int sg])) (upd (upd H p (.tup [.int i, .int sg])) q (.tup [.int st, .int en, .int l, .ref p])) := same_upd hq
  have s12 := s1.trans s2
  refine q_rapp (s12 _ _ ho) hz (k _ (vs ++ [.ref q]) (Same.mut (s0.trans s12) no) upd_same ?_)
  have hqp : q ≠ p := fun e => by
    rw [e, upd_same] at hq
    cases hq
  have s3 : ∀ b u, b ≠ o → upd (upd H p (.tup [.int i, .int sg])) q (.tup [.int st, .int en, .int l, .ref p]) b = some u → upd (upd (upd H p (.tup [.int i, .int sg])) q (.tup [.int st, .int en, .int l, .ref p])) o (.lst (vs ++ [.ref q])) b = some u := fun b u hb e => by
    rw [upd_ne hb]
    exact e
  have po : p ≠ o := (ne_of_none ho hp).symm
  have qo : q ≠ o := (ne_of_none (s1 _ _ ho) hq).symm
  have tupk : ∀ b xs, SqT K H b xs → SqT K (upd (upd (upd H p (.tup [.int i, .int sg])) q (.tup [.int st, .int en, .int l, .ref p])) o (.lst (vs ++ [.ref q]))) b xs := fun b xs h => by
    rcases Same.sqt s12 h with (h | ⟨ob, h⟩) | h
    · exact .inl (.inl (s3 b _ (fun e => by rw [e, s12 _ _ ho] at h; cases h) h))
    · exact .inl (.inr ⟨ob, s3 b _ (fun e => by rw [e, s12 _ _ ho] at h; cases h) h⟩)
    · exact .inr h
  have old : ∀ {ws : List V} {bs : List Kw.Arc}, ArcVs K H true ws bs → ArcVs K (upd (upd (upd H p (.tup [.int i, .int sg])) q (.tup [.int st, .int en, .int l, .ref p])) o (.lst (vs ++ [.ref q]))) true ws bs := by
    intro ws bs h
    refine Paired.mapP h fun v a ⟨p1, x, h1, h2, h3⟩ => ⟨p1, x, h1, tupk _ _ h2, fun z => ?_⟩
    obtain ⟨q1, g1, g2⟩ := h3 z
    exact ⟨q1, g1, tupk _ _ g2⟩
  refine Paired.app (old hv) (.cons ⟨q, .ref p, rfl, SqT.of ?_, fun _ => ⟨p, rfl, SqT.of ?_⟩⟩ .nil)
  · exact s3 q _ qo upd_same
  · exact s3 p _ po (s2 _ _ upd_same)
theorem arc1_none {r : Kw.Row} {i : Nat} {x sg : Int} (h : Kw.chg r x sg = none) : Kw.arc1 r i x sg = [] := by
  unfold Kw.arc1
  rw [h]
theorem arc1_up {r : Kw.Row} {i : Nat} {x l : Int} {u : Option Int} (h : Kw.chg r x 1 = some (l, u)) : Kw.arc1 r i x 1 = [⟨r.f, r.s, l, i, 1⟩] := by
  unfold Kw.arc1
  rw [h]
  rfl
theorem arc1_dn {r : Kw.Row} {i : Nat} {x l : Int} {u : Option Int} (h : Kw.chg r x (-1) = some (l, u)) : Kw.arc1 r i x (-1) = [⟨r.s, r.f, l, i, -1⟩] := by
  unfold Kw.arc1
  rw [h]
  rfl
theorem chR_of {o : Option (Int × Option Int)} {Q : VK} {H : Hp} (h1 : o = none → Q .non H) (h2 : ∀ l u p, o = some (l, u) → H p = none → Q (.ref p) (upd H p (.tup [.int l, oV u]))) : chR o Q H := by
  cases o with
  | none => exact h1 rfl
  | some lu =>
    obtain ⟨l, u⟩ := lu
    exact fun p hp => h2 l u p rfl hp
theorem ok_left_arcs (D : Dk K mg "left_arcs" s_left_arcs) (fr : Fr mg) (h_change_of : Has P w K mg base CX0 2 "change_of" ["row", "flow", "sign"] (spChange K)) :
    Has P w K mg base CX0 3 "left_arcs" ["rows", "flows"] (spLeft K) := by
  have sc := sc_left_arcs
  refine D.has0 sc (fun vs H Q E h => ?_) (fun _ _ _ _ _ _ us hl => match us, hl with | [_, _], _ => rfl) (fun f cdv A outer s H vs Q E hr h => ?_)
  · obtain ⟨ra, fa, R, F, n, k, rfl, _⟩ := h
    rfl
  · obtain ⟨ra, fa, R, F, n, k, rfl, hR, hF, hk, hkk, fok, q⟩ := h
    refine ⟨_, (pss_cons (ps_set (i := 2) sc.nd rfl (Or.inl rfl) (pe_lst pa_nil))
       (pss_cons (ps_for PassesOwn.never rfl (pi_range1 (by rfl) fr.range (pa_cons (pe_callB (id := "len") (c_len (K := K) rfl) (by rfl) fr.len (by decide +kernel) (pa_cons (pv 1) pa_nil)) pa_nil)) (pg_name (i := 3) sc.nd rfl (Or.inl rfl))
        (pss_cons (ps_par (i := 4) (j := 5) (by rfl) sc.nd rfl rfl (by decide) rfl rfl (pa_cons (pe_ixT (K := K) rfl (pe_ixL (K := K) rfl (pv 0) (pv 3) (fun _ _ => rfl)) pe_int (fun _ _ => rfl)) (pa_cons (pe_ixT (K := K) rfl (pe_ixL (K := K) rfl (pv 0) (pv 3) (fun _ _ => rfl)) pe_int (fun _ _ => rfl)) pa_nil)) (by rfl))
       (pss_cons (ps_set (i := 6) sc.nd rfl (Or.inl rfl) (pe_has h_change_of (hr.mono (by decide)) pass0 (pa_cons (pe_ixL (K := K) rfl (pv 0) (pv 3) (fun _ _ => rfl)) (pa_cons (pe_ixL (K := K) rfl (pv 1) (pv 3) (fun _ _ => rfl)) (pa_cons pe_int pa_nil)))))
       (pss_mid (ps_if (pt_cmpR o_notN (pv 6) pe_non (nomark _)) (pss_one (ps_expr (bmK (K := K) (pe_bm PySem.F.plainAttrs_list PySem.F.slot_list_append PySem.F.type_list_append mt_append (pv 2) (pa_cons (pe_tup (pa_cons (pv 4) (pa_cons (pv 5) (pa_cons (pe_ixT (K := K) rfl (pv 6) pe_int (fun _ _ => rfl)) (pa_cons (pe_tup (pa_cons (pv 3) (pa_cons pe_int pa_nil))) pa_nil))))) pa_nil)) rfl))) pss_nil)
       (pss_cons (ps_set (i := 7) sc.nd rfl (Or.inl rfl) (pe_has h_change_of (hr.mono (by decide)) pass0 (pa_cons (pe_ixL (K := K) rfl (pv 0) (pv 3) (fun _ _ => rfl)) (pa_cons (pe_ixL (K := K) rfl (pv 1) (pv 3) (fun _ _ => rfl)) (pa_cons (pe_un un_neg pe_int) pa_nil)))))
       (pss_one (ps_if (pt_cmpR o_notN (pv 7) pe_non (nomark _)) (pss_one (ps_expr (bmK (K := K) (pe_bm PySem.F.plainAttrs_list PySem.F.slot_list_append PySem.F.type_list_append mt_append (pv 2) (pa_cons (pe_tup (pa_cons (pv 5) (pa_cons (pv 4) (pa_cons (pe_ixT (K := K) rfl (pv 7) pe_int (fun _ _ => rfl)) (pa_cons (pe_tup (pa_cons (pv 3) (pa_cons (pe_un un_neg pe_int) pa_nil))) pa_nil))))) pa_nil)) rfl))) pss_nil)))))))
       (pss_one (ps_ret (pv 2))))), ?_⟩
    walk_at "sx"
    refine ⟨Nat.zero_le _, fun o no => ?_⟩
    have s1 : Same H (upd H o (.lst [])) := same_upd no
    walk_at "sx"
    refine q_forLen rfl (s1.seq hF) ?_
    refine ⟨k, by rw [flV_len], line_le' hkk, fun i σ H' => ∃ y3 y4 y5 y6 y7 vs, σ = [some (.ref ra), some (.ref fa), some (.ref o), y3, y4, y5, y6, y7] ∧ Same H H' ∧ H' o = some (.lst vs) ∧ ArcVs K H' true vs (Kw.lArcs R F i), ?_, ?_, ?_⟩
    · exact ⟨none, none, none, none, none, [], rfl, s1, upd_same, .nil⟩
    · rintro i σ H' hi ⟨y3, y4, y5, y6, y7, vs, rfl, s2, ho, hv⟩
      have hR' := hR.same s2
      have hF' : FlAt K H' fa F k := s2.seq hF
      obtain ⟨rv, r1, r2, r3⟩ := hR'.ex
      obtain ⟨rp, r4, r5⟩ := r3 i (by omega)
      have g1 : atI rv (i : Int) = some (.ref rp) := atI_nat r4
      have g2 : atI (flV (fun i => .int (F i)) k) (i : Int) = some (.int (F i)) := atI_nat (flV_get hi)
      have vlen : vs.length ≤ 2 * i := by
        rw [Paired.length hv]
        exact lArcs_len R F i
      walk_at "sx"
      refine q_ixL (.of r1) g1 ?_
      walk_at "sx"
      refine q_ixT r5 rfl ?_
      walk_at "sx"
      refine q_ixL (.of r1) g1 ?_
      walk_at "sx"
      refine q_ixT r5 rfl ?_
      walk_at "sx"
      refine ⟨_, _, rfl, ?_⟩
      walk_at "sx"
      refine q_ixL (.of r1) g1 ?_
      walk_at "sx"
      refine q_ixL hF' g2 ?_
      walk_at "sx"
      refine ⟨rp, R i, F i, 1, rfl, r5, .inl rfl, fok i hi, ?_⟩
      refine chR_of (fun e1 => ?_) (fun l u p e1 hp => ?_)
      · refine ⟨fun σ H2 => ∃ y6 y7 vs2, σ = [some (.ref ra), some (.ref fa), some (.ref o), some (.int i), some (.int (R i).f), some (.int (R i).s), y6, y7] ∧ Same H H2 ∧ H2 o = some (.lst vs2) ∧ ArcVs K H2 true vs2 (Kw.lArcs R F i ++ Kw.arc1 (R i) i (F i) 1), ?_, ?_⟩
        · walk_at "sx"
          refine ⟨_, _, vs, rfl, s2, ho, ?_⟩
          rw [arc1_none e1, List.append_nil]
          exact hv
        · rintro σ H2 ⟨y6, y7, vs2, rfl, s3, ho2, hv2⟩
          obtain ⟨rv', r1', r2', r3'⟩ := (hR.same s3).ex
          obtain ⟨rp', r4', r5'⟩ := r3' i (by omega)
          have vlen2 : vs2.length ≤ 2 * i + 1 := by
            rw [Paired.length hv2, List.length_append]
            have := lArcs_len R F i
            have := arc1_len (R i) i (F i) 1
            omega
          walk_at "sx"
          refine q_ixL (.of r1') (atI_nat r4') ?_
          walk_at "sx"
          refine q_ixL (s3.seq hF) g2 ?_
          walk_at "sx"
          refine ⟨rp', R i, F i, -1, rfl, r5', .inr rfl, fok i hi, ?_⟩
          refine chR_of (fun e2 => ?_) (fun l2 u2 p2 e2 hp2 => ?_)
          · walk_at "sx"
            refine ⟨_, _, _, _, _, vs2, rfl, s3, ho2, ?_⟩
            show ArcVs K H2 true vs2 (Kw.lArcs R F i ++ (Kw.arc1 (R i) i (F i) 1 ++ Kw.arc1 (R i) i (F i) (-1)))
            rw [arc1_none e2, List.append_nil]
            exact hv2
          · have s4 : Same H2 (upd H2 p2 (.tup [.int l2, oV u2])) := same_upd hp2
            walk_at "sx"
            refine q_appV rfl (s4 _ _ ho2) ?_
            walk_at "sx"
            refine q_ixT (SqT.of upd_same) rfl ?_
            walk_at "sx"
            refine ⟨two_line, fun a1 ha1 => ?_⟩
            walk_at "sx"
            refine ⟨line_le (n := 4) (by decide), fun b1 hb1 => ?_⟩
            walk_at "sx"
            refine put_arc (H0 := H) (st := (R i).s) (en := (R i).f) (s3.trans s4) no (s4 _ _ ho2) (ArcVs.same s4 hv2) (line_of (by omega)) ha1 hb1 fun H3 vs3 s5 ho3 hv3 => ?_
            refine ⟨_, _, _, _, _, vs3, rfl, s5, ho3, ?_⟩
            show ArcVs K H3 true vs3 (Kw.lArcs R F i ++ (Kw.arc1 (R i) i (F i) 1 ++ Kw.arc1 (R i) i (F i) (-1)))
            rw [arc1_dn e2, ← List.append_assoc]
            exact hv3
      · have s4 : Same H' (upd H' p (.tup [.int l, oV u])) := same_upd hp
        refine ⟨fun σ H2 => ∃ y6 y7 vs2, σ = [some (.ref ra), some (.ref fa), some (.ref o), some (.int i), some (.int (R i).f), some (.int (R i).s), y6, y7] ∧ Same H H2 ∧ H2 o = some (.lst vs2) ∧ ArcVs K H2 true vs2 (Kw.lArcs R F i ++ Kw.arc1 (R i) i (F i) 1), ?_, ?_⟩
        · walk_at "sx"
          refine q_appV rfl (s4 _ _ ho) ?_
          walk_at "sx"
          refine q_ixT (SqT.of upd_same) rfl ?_
          walk_at "sx"
          refine ⟨two_line, fun a1 ha1 => ?_⟩
          walk_at "sx"
          refine ⟨line_le (n := 4) (by decide), fun b1 hb1 => ?_⟩
          walk_at "sx"
          refine put_arc (H0 := H) (st := (R i).f) (en := (R i).s) (s2.trans s4) no (s4 _ _ ho) (ArcVs.same s4 hv) (line_of (by omega)) ha1 hb1 fun H3 vs3 s5 ho3 hv3 => ?_
          refine ⟨_, _, vs3, rfl, s5, ho3, ?_⟩
          rw [arc1_up e1]
          exact hv3
        · rintro σ H2 ⟨y6, y7, vs2, rfl, s3, ho2, hv2⟩
          obtain ⟨rv', r1', r2', r3'⟩ := (hR.same s3).ex
          obtain ⟨rp', r4', r5'⟩ := r3' i (by omega)
          have vlen2 : vs2.length ≤ 2 * i + 1 := by
            rw [Paired.length hv2, List.length_append]
            have := lArcs_len R F i
            have := arc1_len (R i) i (F i) 1
            omega
          walk_at "sx"
          refine q_ixL (.of r1') (atI_nat r4') ?_
          walk_at "sx"
          refine q_ixL (s3.seq hF) g2 ?_
          walk_at "sx"
          refine ⟨rp', R i, F i, -1, rfl, r5', .inr rfl, fok i hi, ?_⟩
          refine chR_of (fun e2 => ?_) (fun l2 u2 p2 e2 hp2 => ?_)
          · walk_at "sx"
            refine ⟨_, _, _, _, _, vs2, rfl, s3, ho2, ?_⟩
            show ArcVs K H2 true vs2 (Kw.lArcs R F i ++ (Kw.arc1 (R i) i (F i) 1 ++ Kw.arc1 (R i) i (F i) (-1)))
            rw [arc1_none e2, List.append_nil]
            exact hv2
          · have s4 : Same H2 (upd H2 p2 (.tup [.int l2, oV u2])) := same_upd hp2
            walk_at "sx"
            refine q_appV rfl (s4 _ _ ho2) ?_
            walk_at "sx"
            refine q_ixT (SqT.of upd_same) rfl ?_
            walk_at "sx"
            refine ⟨two_line, fun a1 ha1 => ?_⟩
            walk_at "sx"
            refine ⟨line_le (n := 4) (by decide), fun b1 hb1 => ?_⟩
            walk_at "sx"
            refine put_arc (H0 := H) (st := (R i).s) (en := (R i).f) (s3.trans s4) no (s4 _ _ ho2) (ArcVs.same s4 hv2) (line_of (by omega)) ha1 hb1 fun H3 vs3 s5 ho3 hv3 => ?_
            refine ⟨_, _, _, _, _, vs3, rfl, s5, ho3, ?_⟩
            show ArcVs K H3 true vs3 (Kw.lArcs R F i ++ (Kw.arc1 (R i) i (F i) 1 ++ Kw.arc1 (R i) i (F i) (-1)))
            rw [arc1_dn e2, ← List.append_assoc]
            exact hv3
    · rintro σ H' ⟨y3, y4, y5, y6, y7, vs, rfl, s2, ho, hv⟩
      walk_at "sx"
      exact q H' o vs s2 no ho hv
end
end Kt

namespace Kt
open PySem PySem.Spec PyProof.Rows L2
local macro_rules
  | `(tactic| walk_at "sx") => `(tactic| repeat (first
    | with_reducible refine q_seq ?_ | with_reducible refine q_par ?_ | with_reducible refine q_augS ?_ | with_reducible refine q_rev ?_ | with_reducible refine q_yes ?_ | with_reducible refine q_gname ?_ | with_reducible refine q_setG ?_ | with_reducible refine q_ip ?_ | with_reducible refine q_asg ?_ | with_reducible refine q_asgG ?_ | with_reducible refine q_ret ?_ | with_reducible refine q_drop ?_ | with_reducible refine q_if ?_ | with_reducible refine q_next ?_
    | with_reducible refine q_test ?_ | with_reducible refine q_tB ?_ | with_reducible refine q_chain ?_ | with_reducible refine q_andV ?_ | with_reducible refine q_bl ?_ | with_reducible refine q_exint ?_ | ((with_reducible show tAug _ _ _ _ _ _); refine q_aug rfl ?_) | with_reducible refine q_not ?_ | with_reducible refine q_and ?_ | with_reducible refine q_or ?_
    | with_reducible refine q_op ?_ | with_reducible refine q_un ?_ | with_reducible refine q_c ?_ | ((with_reducible show tVar _ _ _ _); refine q_var rfl ?_)
    | with_reducible refine q_i0 ?_ | with_reducible refine q_u ?_ | with_reducible refine q_eq ?_ | with_reducible refine q_ne ?_ | with_reducible refine q_isN ?_ | with_reducible refine q_notN ?_ | with_reducible refine q_min2 ?_ | with_reducible refine q_abs ?_ | with_reducible refine q_int ?_
    | with_reducible refine q_nil ?_ | with_reducible refine q_cons ?_ | with_reducible refine q_tup ?_ | with_reducible refine q_lst ?_ | with_reducible refine q_call ?_ | with_reducible refine q_makeN ?_ | with_reducible refine q_make ?_ | with_reducible refine q_cb ?_
    | ((with_reducible show ite _ _ _); first | refine ift rfl ?_ | refine iff' rfl ?_)))
-- slots: 0 flows 1 links 2 units 3 index 4 sign
abbrev s_send : Stmt := topS 29
theorem sc_send : FnScope ["flows", "links", "units", "index", "sign"] ["flows", "links", "units"] (defScope s_send) := ⟨rfl, rfl, rfl, by decide +kernel, rfl, by decide +kernel, by decide +kernel⟩
-- slots: 0 totals 1 last 2 arcs 3 improved 4 arc 5 start 6 end 7 length 8 _
abbrev s_improve : Stmt := topS 14
theorem sc_improve : FnScope ["totals", "last", "arcs", "improved", "arc", "start", "end", "length", "_"] ["totals", "last", "arcs"] (defScope s_improve) := ⟨rfl, rfl, rfl, by decide +kernel, rfl, by decide +kernel, by decide +kernel⟩
section
variable {P : Program} {w : World} {K : PySem.W.Frag} {mg : Str → Option Value} {base : Heap}
theorem send_snoc {t : Int} {a : Kw.Arc} : ∀ {p : List Kw.Arc} {F : Nat → Int}, Kw.send t (p ++ [a]) F = Kw.put (Kw.send t p F) a.ix (Kw.send t p F a.ix + a.sg * t)
  | [], _ => rfl
  | b :: p, F => by
    show Kw.send t (p ++ [a]) (Kw.put F b.ix (F b.ix + b.sg * t)) = _
    rw [send_snoc]
    rfl
def spSend (K : PySem.W.Frag) : Sp := fun vs H Q _ => ∃ (fa la : Addr) (F : Nat → Int) (k : Nat) (t : Int) (ls : List V) (p : List Kw.Arc), vs = [.ref fa, .ref la, .int t] ∧ H fa = some (.lst (flV (fun i => .int (F i)) k)) ∧ SqL K H la ls ∧ LinkVs K H ls p ∧ la ≠ fa ∧
  (∀ a ∈ p, a.ix < k ∧ (a.sg = 1 ∨ a.sg = -1)) ∧ ∀ H', Keep (· = fa) H H' → H' fa = some (.lst (flV (fun i => .int (Kw.send t p F i)) k)) → Q .non H'
theorem ok_send (D : Dk K mg "send" s_send) : Has P w K mg base CX0 1 "send" ["flows", "links", "units"] (spSend K) := by
  have sc := sc_send
  refine D.has0 sc (fun vs H Q E h => ?_) (fun _ _ _ _ _ _ us hl => match us, hl with | [_, _, _], _ => rfl) (fun f cdv A outer s H vs Q E hr h => ?_)
  · obtain ⟨fa, la, F, k, t, ls, p, rfl, _⟩ := h
    rfl
  · obtain ⟨fa, la, F, k, t, ls, p, rfl, hF, hL, hp, ne, hix, q⟩ := h
    refine ⟨_, (pss_one (ps_for PassesOwn.never rfl (pi_listK (K := K) rfl (pv 1)) (pg_tupK (K := K) (n := 2) rfl rfl (pgs_cons (pg_name (i := 3) sc.nd rfl (Or.inl rfl)) (pgs_cons (pg_name (i := 4) sc.nd rfl (Or.inl rfl)) pgs_nil)))
        (pss_one (ps_augS (pv 0) (pv 3) get_list (pe_op op_mul (pv 4) (pv 2)) ip_add set_list)))), ?_⟩
    have wl : ∀ b, b = fa → ∃ xs, H b = some (.lst xs) := fun b e => by rw [e]; exact ⟨_, hF⟩
    refine q_forL rfl ⟨la, ls, rfl, hL, fun i σ H' => ∃ y3 y4, σ = [some (.ref fa), some (.ref la), some (.int t), y3, y4] ∧ Keep (· = fa) H H' ∧ H' fa = some (.lst (flV (fun m => .int (Kw.send t (p.take i) F m)) k)), ?_, ?_, ?_, ?_⟩
    · exact ⟨none, none, rfl, Keep.refl _ _, hF⟩
    · rintro i σ H' hi ⟨y3, y4, rfl, kp, _⟩
      exact kp.sql ne hL
    · rintro i x σ H' hx ⟨y3, y4, rfl, kp, hf⟩
      obtain ⟨a, ea, u, rfl, hu⟩ := paired_r hp hx
      have hm : a ∈ p := List.mem_of_getElem? ea
      obtain ⟨h1, h2⟩ := hix a hm
      refine q_g2 (kp.sqt wl hu) ?_
      walk_at "sx"
      refine q_getN hf (flV_get h1) ?_
      walk_at "sx"
      refine q_i (cmul_l (by rcases h2 with e | e <;> rw [e] <;> decide)) ?_
      walk_at "sx"
      refine q_set hf (by rw [flV_len]; exact h1) ?_
      refine ⟨_, _, rfl, kp.upd rfl, ?_⟩
      rw [upd_same, flV_set]
      have e : p.take (i + 1) = p.take i ++ [a] := by
        rw [List.take_add_one, ea]
        rfl
      rw [e, send_snoc]
      congr 2
      apply flV_congr
      intro m _
      by_cases q : m = a.ix
      · rw [q, Kw.put_same, Kw.put_same]
      · rw [Kw.put_ne q, Kw.put_ne q]
    · rintro σ H' ⟨y3, y4, rfl, kp, hf⟩
      refine q H' kp ?_
      rw [Paired.length hp, List.take_length] at hf
      exact hf
/-- the last arcs' list -/
def lastP (K : PySem.W.Frag) (H : Hp) (v : V) (o : Option Kw.Arc) : Prop := match o with
  | none => v = .non
  | some a => arcP K H true v a
theorem Keep.last {W : Addr → Prop} {H H' : Hp} (k : Keep W H H') (l : ∀ b, W b → ∃ xs, H b = some (.lst xs)) {v : V} {o : Option Kw.Arc} (h : lastP K H v o) : lastP K H' v o := by
  cases o with
  | none => exact h
  | some a => exact k.arc l h
structure BSAt (K : PySem.W.Frag) (H : Hp) (ta la : Addr) (n : Nat) (S : Kw.BS) : Prop where
  tot : H ta = some (.lst (flV (fun v => oV (S.d v)) n))
  lst : ∃ LV : Nat → V, H la = some (.lst (flV LV n)) ∧ ∀ v, v < n → lastP K H (LV v) (S.L v)
def imV (o : Option Nat) : V := match o with
  | none => .non
  | some e => .int (e : Nat)
def spImprove (K : PySem.W.Frag) : Sp := fun vs H Q _ => ∃ (ta la aa : Addr) (n : Nat) (S : Kw.BS) (av : List V) (as : List Kw.Arc), vs = [.ref ta, .ref la, .ref aa] ∧ BSAt K H ta la n S ∧ SqL K H aa av ∧ ArcVs K H true av as ∧ ta ≠ la ∧ aa ≠ ta ∧ aa ≠ la ∧
  (∀ a ∈ as, a.s < n ∧ a.e < n) ∧ ∀ H', Keep (fun b => b = ta ∨ b = la) H H' → BSAt K H' ta la n (Kw.round as S) → Q (imV (Kw.round as S).im) H'
theorem ok_improve (D : Dk K mg "improve" s_improve) : Has P w K mg base CX0 1 "improve" ["totals", "last", "arcs"] (spImprove K) := by
  have sc := sc_improve
  refine D.has0 sc (fun vs H Q E h => ?_) (fun _ _ _ _ _ _ us hl => match us, hl with | [_, _, _], _ => rfl) (fun f cdv A outer s H vs Q E hr h => ?_)
  · obtain ⟨ta, la, aa, n, S, av, as, rfl, _⟩ := h
    rfl
  · obtain ⟨ta, la, aa, n, S, av, as, rfl, hS, hA, ha, n1, n2, n3, lt, q⟩ := h
    refine ⟨_, (pss_cons (ps_set (i := 3) sc.nd rfl (Or.inl rfl) pe_non)
       (pss_cons (ps_for PassesOwn.never rfl (pi_listK (K := K) rfl (pv 2)) (pg_name (i := 4) sc.nd rfl (Or.inl rfl))
        (pss_cons (ps_asg (pv 4) (pg_tupK (K := K) (n := 4) rfl rfl (pgs_cons (pg_name (i := 5) sc.nd rfl (Or.inl rfl)) (pgs_cons (pg_name (i := 6) sc.nd rfl (Or.inl rfl)) (pgs_cons (pg_name (i := 7) sc.nd rfl (Or.inl rfl)) (pgs_cons (pg_name (i := 8) sc.nd rfl (Or.inl rfl)) pgs_nil))))))
       (pss_one (ps_if (PW.pt (pw_and (pt_cmpR o_notN (pe_ixL (K := K) rfl (pv 0) (pv 5) (fun _ _ => rfl)) pe_non (nomark _)) (pw_and1 (PW.pt (pw_or (pt_cmpR o_isN (pe_ixL (K := K) rfl (pv 0) (pv 6) (fun _ _ => rfl)) pe_non (nomark _)) (pw_or1 (pt_cmpR op_lt (pe_op op_add (pe_ixL (K := K) rfl (pv 0) (pv 5) (fun _ _ => rfl)) (pv 7)) (pe_ixL (K := K) rfl (pv 0) (pv 6) (fun _ _ => rfl)) (nomark _)))))))) (pss_cons (ps_asg (pe_op op_add (pe_ixL (K := K) rfl (pv 0) (pv 5) (fun _ _ => rfl)) (pv 7)) (pg_sub (pv 0) (pv 6) set_list))
       (pss_cons (ps_asg (pv 4) (pg_sub (pv 1) (pv 6) set_list))
       (pss_one (ps_set (i := 3) sc.nd rfl (Or.inl rfl) (pv 6))))) pss_nil))))
       (pss_one (ps_ret (pv 3))))), ?_⟩
    obtain ⟨LV, hL0, hl0⟩ := hS.lst
    have wl : ∀ b, b = ta ∨ b = la → ∃ xs, H b = some (.lst xs) := fun b e => by
      rcases e with e | e
      · rw [e]
        exact ⟨_, hS.tot⟩
      · rw [e]
        exact ⟨_, hL0⟩
    walk_at "sx"
    refine q_forL rfl ⟨aa, av, rfl, hA, fun i σ H' => ∃ y4 y5 y6 y7 y8, σ = [some (.ref ta), some (.ref la), some (.ref aa), some (imV ((as.take i).foldl Kw.relax { S with im := none }).im), y4, y5, y6, y7, y8] ∧ Keep (fun b => b = ta ∨ b = la) H H' ∧ BSAt K H' ta la n ((as.take i).foldl Kw.relax { S with im := none }), ?_, ?_, ?_, ?_⟩
    · exact ⟨_, _, _, _, _, rfl, Keep.refl _ _, ⟨hS.tot, LV, hL0, hl0⟩⟩
    · rintro i σ H' hi ⟨y4, y5, y6, y7, y8, rfl, kp, _⟩
      exact kp.sql (fun e => e.elim n2 n3) hA
    · rintro i x σ H' hx ⟨y4, y5, y6, y7, y8, rfl, kp, hB⟩
      obtain ⟨a, ea, hax⟩ := paired_r ha hx
      have hax' := kp.arc wl hax
      obtain ⟨p, u, rfl, hp, hu⟩ := hax
      have hm : a ∈ as := List.mem_of_getElem? ea
      obtain ⟨lt1, lt2⟩ := lt a hm
      have step : (as.take (i + 1)).foldl Kw.relax { S with im := none } = Kw.relax ((as.take i).foldl Kw.relax { S with im := none }) a := by
        rw [List.take_add_one, ea]
        show (as.take i ++ [a]).foldl Kw.relax _ = _
        rw [List.foldl_append]
        rfl
      obtain ⟨S1, hS1⟩ : ∃ S1, S1 = (as.take i).foldl Kw.relax { S with im := none } := ⟨_, rfl⟩
      rw [← hS1] at hB step ⊢
      have nx : ∀ (T : Kw.BS) (H2 : Hp) (σ2 : L2.St), T = Kw.relax S1 a → (∃ y4 y5 y6 y7 y8, σ2 = [some (.ref ta), some (.ref la), some (.ref aa), some (imV T.im), y4, y5, y6, y7, y8]) → Keep (fun b => b = ta ∨ b = la) H H2 → BSAt K H2 ta la n T →
          ∃ y4 y5 y6 y7 y8, σ2 = [some (.ref ta), some (.ref la), some (.ref aa), some (imV ((as.take (i + 1)).foldl Kw.relax { S with im := none }).im), y4, y5, y6, y7, y8] ∧ Keep (fun b => b = ta ∨ b = la) H H2 ∧ BSAt K H2 ta la n ((as.take (i + 1)).foldl Kw.relax { S with im := none }) := by
        rintro T H2 σ2 rfl ⟨z4, z5, z6, z7, z8, e⟩ k1 k2
        rw [step]
        exact ⟨z4, z5, z6, z7, z8, e, k1, k2⟩
      obtain ⟨LV1, hL1, hl1⟩ := hB.lst
      walk_at "sx"
      refine q_g4 (kp.sqt wl hp) ?_
      walk_at "sx"
      refine q_ixLn hB.tot (flV_get lt1) ?_
      cases hd : S1.d a.s with
      | none =>
        walk_at "sx"
        exact nx S1 _ _ (Kw.relax_none hd).symm ⟨_, _, _, _, _, rfl⟩ kp hB
      | some c =>
        have yes : Kw.better (S1.d a.e) (c + a.l) = true → tSeq (tAsg (tOp (rI0 fun i j => V.int (i + j)) (tOp (rIxL K) (tVar 0) (tVar 5)) (tVar 7)) (gSub (tVar 0) (tVar 6) rSetL))
            (tSeq (tAsg (tVar 4) (gSub (tVar 1) (tVar 6) rSetL)) (tAsg (tVar 6) (gName 3))) { nx := fun σ2 H2 => ∃ y4 y5 y6 y7 y8, σ2 = [some (.ref ta), some (.ref la), some (.ref aa), some (imV ((as.take (i + 1)).foldl Kw.relax { S with im := none }).im), y4, y5, y6, y7, y8] ∧ Keep (fun b => b = ta ∨ b = la) H H2 ∧ BSAt K H2 ta la n ((as.take (i + 1)).foldl Kw.relax { S with im := none }), rt := Q }
            [some (.ref ta), some (.ref la), some (.ref aa), some (imV S1.im), some (.ref p), some (.int a.s), some (.int a.e), some (.int a.l), some u] H' := fun g => by
          walk_at "sx"
          refine q_ixLn hB.tot (flV_get lt1) ?_
          rw [hd]
          walk_at "sx"
          refine q_set hB.tot (by rw [flV_len]; exact lt2) ?_
          walk_at "sx"
          have hL2 : upd H' ta (.lst ((flV (fun v => oV (S1.d v)) n).set a.e (.int (c + a.l)))) la = some (.lst (flV LV1 n)) := by
            rw [upd_ne n1.symm]
            exact hL1
          refine q_set hL2 (by rw [flV_len]; exact lt2) ?_
          walk_at "sx"
          refine nx _ _ _ (Kw.relax_yes hd g).symm ⟨_, _, _, _, _, rfl⟩ ((kp.upd (.inl rfl)).upd (.inr rfl)) ⟨?_, Kw.put LV1 a.e (.ref p), ?_, fun v hv => ?_⟩
          · rw [upd_ne n1, upd_same, flV_set]
            congr 2
            apply flV_congr
            intro m _
            by_cases e : m = a.e
            · rw [e, Kw.put_same]
              show V.int (c + a.l) = oV (Kw.put S1.d a.e (some (c + a.l)) a.e)
              rw [Kw.put_same]
            · rw [Kw.put_ne e]
              show oV (S1.d m) = oV (Kw.put S1.d a.e (some (c + a.l)) m)
              rw [Kw.put_ne e]
          · rw [upd_same, flV_set]
          · have k3 : Keep (fun b => b = ta ∨ b = la) H (upd (upd H' ta (.lst ((flV (fun v => oV (S1.d v)) n).set a.e (.int (c + a.l))))) la (.lst ((flV LV1 n).set a.e (.ref p)))) := (kp.upd (.inl rfl)).upd (.inr rfl)
            have k4 : Keep (fun b => b = ta ∨ b = la) H' (upd (upd H' ta (.lst ((flV (fun v => oV (S1.d v)) n).set a.e (.int (c + a.l))))) la (.lst ((flV LV1 n).set a.e (.ref p)))) := ((Keep.refl _ H').upd (.inl rfl)).upd (.inr rfl)
            have wl1 : ∀ b, b = ta ∨ b = la → ∃ xs, H' b = some (.lst xs) := fun b e => by
              rcases e with e | e
              · rw [e]
                exact ⟨_, hB.tot⟩
              · rw [e]
                exact ⟨_, hL1⟩
            by_cases e : v = a.e
            · rw [e, Kw.put_same]
              show lastP K _ _ (Kw.put S1.L a.e (some a) a.e)
              rw [Kw.put_same]
              exact k3.arc wl ⟨p, u, rfl, hp, hu⟩
            · rw [Kw.put_ne e]
              show lastP K _ _ (Kw.put S1.L a.e (some a) v)
              rw [Kw.put_ne e]
              exact k4.last wl1 (hl1 v hv)
        walk_at "sx"
        refine q_ixLn hB.tot (flV_get lt2) ?_
        cases he : S1.d a.e with
        | none =>
          have g : Kw.better (S1.d a.e) (c + a.l) = true := by rw [he]; rfl
          with_reducible refine q_c ?_
          refine q_isN ?_
          refine q_bl ?_
          refine ift rfl ?_
          refine ift rfl ?_
          exact yes g
        | some c2 =>
          walk_at "sx"
          refine q_ixLn hB.tot (flV_get lt1) ?_
          rw [hd]
          walk_at "sx"
          refine q_ixLn hB.tot (flV_get lt2) ?_
          rw [he]
          walk_at "sx"
          refine ifd (fun h => ?_) (fun h => ?_)
          · have g : Kw.better (S1.d a.e) (c + a.l) = true := by
              rw [he]
              exact decide_eq_true h
            exact yes g
          · have g : Kw.better (S1.d a.e) (c + a.l) = false := by
              rw [he]
              exact decide_eq_false h
            walk_at "sx"
            exact nx S1 _ _ (Kw.relax_no hd g).symm ⟨_, _, _, _, _, rfl⟩ kp hB
    · rintro σ H' ⟨y4, y5, y6, y7, y8, rfl, kp, hB⟩
      rw [Paired.length ha, List.take_length] at hB ⊢
      walk_at "sx"
      exact q H' kp hB
end
end Kt

namespace Kt
open PySem PySem.Spec PyProof.Rows L2
local macro_rules
  | `(tactic| walk_at "sx") => `(tactic| repeat (first
    | with_reducible refine q_seq ?_ | with_reducible refine q_par ?_ | with_reducible refine q_augS ?_ | with_reducible refine q_rev ?_ | with_reducible refine q_yes ?_ | with_reducible refine q_gname ?_ | with_reducible refine q_setG ?_ | with_reducible refine q_ip ?_ | with_reducible refine q_asg ?_ | with_reducible refine q_asgG ?_ | with_reducible refine q_ret ?_ | with_reducible refine q_drop ?_ | with_reducible refine q_if ?_ | with_reducible refine q_next ?_
    | with_reducible refine q_test ?_ | with_reducible refine q_tB ?_ | with_reducible refine q_chain ?_ | with_reducible refine q_andV ?_ | with_reducible refine q_bl ?_ | with_reducible refine q_exint ?_ | ((with_reducible show tAug _ _ _ _ _ _); refine q_aug rfl ?_) | with_reducible refine q_not ?_ | with_reducible refine q_and ?_ | with_reducible refine q_or ?_
    | with_reducible refine q_op ?_ | with_reducible refine q_un ?_ | with_reducible refine q_c ?_ | ((with_reducible show tVar _ _ _ _); refine q_var rfl ?_)
    | with_reducible refine q_i0 ?_ | with_reducible refine q_u ?_ | with_reducible refine q_eq ?_ | with_reducible refine q_ne ?_ | with_reducible refine q_isN ?_ | with_reducible refine q_notN ?_ | with_reducible refine q_min2 ?_ | with_reducible refine q_abs ?_ | with_reducible refine q_int ?_
    | with_reducible refine q_nil ?_ | with_reducible refine q_cons ?_ | with_reducible refine q_tup ?_ | with_reducible refine q_lst ?_ | with_reducible refine q_call ?_ | with_reducible refine q_makeN ?_ | with_reducible refine q_make ?_ | with_reducible refine q_cb ?_
    | ((with_reducible show ite _ _ _); first | refine ift rfl ?_ | refine iff' rfl ?_)))
-- slots: 0 size 1 arcs 2 first 3 second 4 totals 5 _ 6 last 7 links 8 node
abbrev s_walk_of : Stmt := topS 15
theorem sc_walk_of : FnScope ["size", "arcs", "first", "second", "totals", "_", "last", "links", "node"] ["size", "arcs", "first", "second"] (defScope s_walk_of) := ⟨rfl, rfl, rfl, by decide +kernel, rfl, by decide +kernel, by decide +kernel⟩
section
variable {P : Program} {w : World} {K : PySem.W.Frag} {mg : Str → Option Value} {base : Heap}
def spWalk (K : PySem.W.Frag) : Sp := fun vs H Q _ => ∃ (n : Nat) (aa : Addr) (b g : Nat) (av : List V) (as : List Kw.Arc) (Df : Nat → Int), vs = [.int n, .ref aa, .int b, .int g] ∧ n ≤ 1000 ∧ H aa = some (.lst av) ∧ ArcVs K H true av as ∧ Kw.Dist n as b Df ∧ g < n ∧
  ∀ H' r la ls p, Same H H' → H' r = some (.tup [.int (Df g), .ref la]) → H la = none → H' la = some (.lst ls) → LinkVs K H' ls p → Kw.Way n as b g Df p → Q (.ref r) H'
theorem flV_none {n b : Nat} (hb : b < n) : (flV (fun _ => V.non) n).set b (.int 0) = flV (fun v => oV ((Kw.bs0 b).d v)) n := by
  rw [flV_set]
  apply flV_congr
  intro i _
  by_cases e : i = b
  · rw [e, Kw.put_same]
    show V.int 0 = oV (Kw.put (fun _ => none) b (some 0) b)
    rw [Kw.put_same]
  · rw [Kw.put_ne e]
    show V.non = oV (Kw.put (fun _ => none) b (some 0) i)
    rw [Kw.put_ne e]
theorem imV_none {o : Option Nat} : decide (imV o = V.non) = decide (o = none) := by
  cases o with
  | none => rfl
  | some e => rfl
theorem rounds_succ (as : List Kw.Arc) (k : Nat) (S : Kw.BS) : Kw.rounds as (k + 1) S = if (Kw.round as S).im = none then Kw.round as S else Kw.rounds as k (Kw.round as S) := rfl
theorem round_im (as : List Kw.Arc) (S : Kw.BS) (o : Option Nat) : Kw.round as { S with im := o } = Kw.round as S := rfl
theorem ok_walk_of (D : Dk K mg "walk_of" s_walk_of) (fr : Fr mg) (h_improve : Has P w K mg base CX0 1 "improve" ["totals", "last", "arcs"] (spImprove K)) :
    Has P w K mg base CX0 2 "walk_of" ["size", "arcs", "first", "second"] (spWalk K) := by
  have sc := sc_walk_of
  refine D.has0 sc (fun vs H Q E h => ?_) (fun _ _ _ _ _ _ us hl => match us, hl with | [_, _, _, _], _ => rfl) (fun f cdv A outer s H vs Q E hr h => ?_)
  · obtain ⟨n, aa, b, g, av, as, Df, rfl, _⟩ := h
    rfl
  · obtain ⟨n, aa, b, g, av, as, Df, rfl, hn, hA, ha, Z, hg, q⟩ := h
    refine ⟨_, (pss_cons (ps_setLc (i := 4) (own := [("_", 5)]) (g := gName 5) (tt := tYes) rfl sc.nd rfl rfl (sw_true rfl rfl rfl (by decide +kernel)) (pi_range1 (by rfl) fr.range (pa_cons (pv 0) pa_nil)) (blkOk_by (by kernel_rfl)) (fun _ _ _ _ _ => (pg_name (i := 5) sc.nd rfl (Or.inl rfl))) (fun _ _ _ _ _ => pts_nil) (fun _ _ _ _ _ => pe_non))
       (pss_cons (ps_setLc (i := 6) (own := [("_", 5)]) (g := gName 5) (tt := tYes) rfl sc.nd rfl rfl (sw_true rfl rfl rfl (by decide +kernel)) (pi_range1 (by rfl) fr.range (pa_cons (pv 0) pa_nil)) (blkOk_by (by kernel_rfl)) (fun _ _ _ _ _ => (pg_name (i := 5) sc.nd rfl (Or.inl rfl))) (fun _ _ _ _ _ => pts_nil) (fun _ _ _ _ _ => pe_non))
       (pss_cons (ps_asg pe_int (pg_sub (pv 4) (pv 2) set_list))
       (pss_mid (ps_for PassesOwn.never rfl (pi_range1 (by rfl) fr.range (pa_cons (pv 0) pa_nil)) (pg_name (i := 5) sc.nd rfl (Or.inl rfl))
        (pss_one (ps_if (pt_cmpR o_isN (pe_has h_improve (hr.mono (by decide)) pass0 (pa_cons (pv 4) (pa_cons (pv 6) (pa_cons (pv 1) pa_nil)))) pe_non (nomark _)) (pss_one ps_break) pss_nil)))
       (pss_cons (ps_if (pt_cmpR o_isN (pe_ixL (K := K) rfl (pv 4) (pv 3) (fun _ _ => rfl)) pe_non (nomark _)) (pss_one (ps_ret pe_non)) pss_nil)
       (pss_cons (ps_set (i := 7) sc.nd rfl (Or.inl rfl) (pe_lst pa_nil))
       (pss_cons (ps_set (i := 8) sc.nd rfl (Or.inl rfl) (pv 3))
       (pss_cons (ps_for PassesOwn.never rfl (pi_range1 (by rfl) fr.range (pa_cons (pv 0) pa_nil)) (pg_name (i := 5) sc.nd rfl (Or.inl rfl))
        (pss_one (ps_if (pt_cmpR op_ne (pv 8) (pv 2) (nomark _)) (pss_cons (ps_expr (bmK (K := K) (pe_bm PySem.F.plainAttrs_list PySem.F.slot_list_append PySem.F.type_list_append mt_append (pv 7) (pa_cons (pe_ixT (K := K) rfl (pe_ixL (K := K) rfl (pv 6) (pv 8) (fun _ _ => rfl)) pe_int (fun _ _ => rfl)) pa_nil)) rfl))
       (pss_one (ps_set (i := 8) sc.nd rfl (Or.inl rfl) (pe_ixT (K := K) rfl (pe_ixL (K := K) rfl (pv 6) (pv 8) (fun _ _ => rfl)) pe_int (fun _ _ => rfl))))) pss_nil)))
       (pss_one (ps_ret (pe_tup (pa_cons (pe_ixL (K := K) rfl (pv 4) (pv 3) (fun _ _ => rfl)) (pa_cons (revK (K := K) (pe_revL (pv 7)) rfl) pa_nil))))))))))))), ?_⟩
    have hb := Z.b_lt
    walk_at "sx"
    refine q_lcC rfl (line_le' hn) fun ta nta => ?_
    walk_at "sx"
    refine q_lcC rfl (line_le' hn) fun la nla => ?_
    walk_at "sx"
    have s1 : Same H (upd H ta (.lst (flV (fun _ => .non) n))) := same_upd nta
    have s2 := same_upd (o := .lst (flV (fun _ => V.non) n)) nla
    have tl : ta ≠ la := ne_of_none upd_same nla
    have nla0 : H la = none := s1.free nla
    refine q_set (by rw [upd_ne tl]; exact upd_same) (by rw [flV_len]; exact hb) ?_
    have e0 : upd (upd (upd H ta (.lst (flV (fun _ => .non) n))) la (.lst (flV (fun _ => .non) n))) ta (.lst ((flV (fun _ => .non) n).set b (.int 0))) ta = some (.lst (flV (fun v => oV ((Kw.bs0 b).d v)) n)) := by
      rw [upd_same, flV_none hb]
    have e1 : upd (upd (upd H ta (.lst (flV (fun _ => .non) n))) la (.lst (flV (fun _ => .non) n))) ta (.lst ((flV (fun _ => .non) n).set b (.int 0))) la = some (.lst (flV (fun _ => .non) n)) := by
      rw [upd_ne tl.symm, upd_same]
    have s3 : Same H (upd (upd (upd H ta (.lst (flV (fun _ => .non) n))) la (.lst (flV (fun _ => .non) n))) ta (.lst ((flV (fun _ => .non) n).set b (.int 0)))) := Same.mut (s1.trans s2) nta
    generalize upd (upd (upd H ta (.lst (flV (fun _ => .non) n))) la (.lst (flV (fun _ => .non) n))) ta (.lst ((flV (fun _ => .non) n).set b (.int 0))) = H3 at e0 e1 s3 ⊢
    have hB0 : BSAt K H3 ta la n (Kw.bs0 b) := ⟨e0, fun _ => .non, e1, fun v _ => rfl⟩
    have na1 : aa ≠ ta := ne_of_none hA nta
    have na2 : aa ≠ la := ne_of_none hA nla0
    refine ⟨fun σ H' => ∃ y5 S, σ = [some (.int n), some (.ref aa), some (.int b), some (.int g), some (.ref ta), y5, some (.ref la), none, none] ∧ Same H H' ∧ BSAt K H' ta la n S ∧ S.d = (Kw.rounds as n (Kw.bs0 b)).d ∧ S.L = (Kw.rounds as n (Kw.bs0 b)).L, ?_, ?_⟩
    · refine q_forR rfl ⟨n, rfl, line_le' hn, fun i σ H' => ∃ y5 S, σ = [some (.int n), some (.ref aa), some (.int b), some (.int g), some (.ref ta), y5, some (.ref la), none, none] ∧ Same H H' ∧ BSAt K H' ta la n S ∧ (Kw.rounds as (n - i) S).d = (Kw.rounds as n (Kw.bs0 b)).d ∧ (Kw.rounds as (n - i) S).L = (Kw.rounds as n (Kw.bs0 b)).L, ?_, ?_, ?_⟩
      · exact ⟨_, Kw.bs0 b, rfl, s3, hB0, by rw [Nat.sub_zero], by rw [Nat.sub_zero]⟩
      · rintro i σ H' hi ⟨y5, S, rfl, s4, hB, hd, hL⟩
        rw [show n - i = (n - (i + 1)) + 1 by omega] at hd hL
        rw [rounds_succ] at hd hL
        walk_at "sx"
        refine ⟨ta, la, aa, n, S, av, as, rfl, hB, .of (s4 _ _ hA), ArcVs.same s4 ha, tl, na1, na2, Z.arcs, fun H5 k5 hB5 => ?_⟩
        have s5 : Same H H5 := fun x o e => k5 x o (fun z => by
          rcases z with z | z
          · rw [z, nta] at e
            cases e
          · rw [z, nla0] at e
            cases e) (s4 x o e)
        cases him : (Kw.round as S).im with
        | none =>
          rw [if_pos him] at hd hL
          walk_at "sx"
          exact ⟨_, Kw.round as S, rfl, s5, hB5, hd, hL⟩
        | some e =>
          rw [if_neg (by rw [him]; exact Option.some_ne_none _)] at hd hL
          walk_at "sx"
          exact ⟨_, Kw.round as S, rfl, s5, hB5, hd, hL⟩
      · rintro σ H' ⟨y5, S, rfl, s4, hB, hd, hL⟩
        rw [Nat.sub_self] at hd hL
        exact ⟨y5, S, rfl, s4, hB, hd, hL⟩
    · rintro σ H' ⟨y5, S, rfl, s4, hB, hd, hL⟩
      obtain ⟨wf, wi⟩ := Kw.walk_fin Z
      rw [← hd] at wf
      obtain ⟨LV, hl1, hl2⟩ := hB.lst
      walk_at "sx"
      refine q_ixLn hB.tot (flV_get hg) ?_
      rw [wf g hg]
      walk_at "sx"
      refine ⟨Nat.zero_le _, fun o no => ?_⟩
      have s5 : Same H' (upd H' o (.lst [])) := same_upd no
      have noH : H o = none := s4.free no
      walk_at "sx"
      have wi' : Kw.BI as Df b S := by
        refine ⟨by rw [hd]; exact wi.start, fun v c e => wi.real v c (by rw [← hd]; exact e), fun v a e => ?_, by rw [hL]; exact wi.top, fun v c e => by rw [hL]; exact wi.root v c (by rw [← hd]; exact e)⟩
        rw [hL] at e
        rw [hd]
        exact wi.last v a e
      obtain ⟨p0, hp0⟩ := (wi'.root g _ (wf g hg)).chain
      obtain ⟨way, plen⟩ := Kw.chain_way Z wi' wf hp0 hg
      have wl : ∀ x, x = o → ∃ xs, upd H' o (.lst []) x = some (.lst xs) := fun x e => by rw [e]; exact ⟨_, upd_same⟩
      have ota : ta ≠ o := ne_of_none hB.tot no
      have ola : la ≠ o := ne_of_none hl1 no
      refine q_forR rfl ⟨n, rfl, line_le' hn, fun i σ H2 => ∃ y5 wn ls pp qq, σ = [some (.int n), some (.ref aa), some (.int b), some (.int g), some (.ref ta), y5, some (.ref la), some (.ref o), some (.int (wn : Nat))] ∧ Keep (· = o) (upd H' o (.lst [])) H2 ∧ H2 o = some (.lst ls) ∧ LinkVs K H2 ls pp ∧
        Kw.Chain S.L b wn qq ∧ pp ++ qq = p0 ∧ qq.length ≤ n - i ∧ wn < n, ?_, ?_, ?_⟩
      · exact ⟨_, g, [], [], p0, rfl, Keep.refl _ _, upd_same, .nil, hp0, rfl, by omega, hg⟩
      · rintro i σ H2 hi ⟨y5, wn, ls, pp, qq, rfl, k2, ho, hls, hc, ep, hq, hw⟩
        walk_at "sx"
        refine ifn (fun h => ?_) (fun h => ?_)
        · have hwb : wn ≠ b := fun e => h (by rw [e])
          cases hc with
          | nil => exact absurd rfl hwb
          | cons a h1 h2 hc2 =>
            rename_i q2
            have hlast := hl2 wn hw
            rw [h2] at hlast
            obtain ⟨pa, xa, e1, e2, e3⟩ := hlast
            obtain ⟨u, e4, e5⟩ := e3 rfl
            have hl3 : H2 la = some (.lst (flV LV n)) := k2 la _ ola (s5 _ _ hl1)
            have e2' : SqT K H2 pa [.int a.s, .int a.e, .int a.l, xa] := k2.sqt wl (Same.sqt s5 e2)
            have e5' : SqT K H2 u [.int a.ix, .int a.sg] := k2.sqt wl (Same.sqt s5 e5)
            subst e4
            walk_at "sx"
            refine q_appV rfl ho ?_
            walk_at "sx"
            refine q_ixLn hl3 (flV_get hw) ?_
            rw [e1]
            walk_at "sx"
            refine q_ixT e2' rfl ?_
            walk_at "sx"
            have lsl : ls.length ≤ 1000 := by
              rw [Paired.length hls]
              have : (pp ++ a :: q2).length = p0.length := by rw [ep]
              rw [List.length_append] at this
              omega
            refine q_rapp ho (line_of (line_le' lsl)) ?_
            walk_at "sx"
            have k3 : Keep (· = o) H2 (upd H2 o (.lst (ls ++ [.ref u]))) := (Keep.refl _ _).upd rfl
            have wl2 : ∀ x, x = o → ∃ xs, H2 x = some (.lst xs) := fun x e => by rw [e]; exact ⟨_, ho⟩
            refine q_ixLn (by rw [upd_ne ola]; exact hl3) (flV_get hw) ?_
            rw [e1]
            walk_at "sx"
            refine q_ixT (k3.sqt wl2 e2') rfl ?_
            walk_at "sx"
            have la' := (wi'.last wn a h2).1
            refine ⟨_, a.s, ls ++ [.ref u], pp ++ [a], q2, rfl, k2.trans k3, upd_same, Paired.app (k3.link wl2 hls) (.cons ⟨u, rfl, k3.sqt wl2 e5'⟩ .nil), hc2, by rw [List.append_assoc]; exact ep, ?_, (Z.arcs a la').1⟩
            rw [List.length_cons] at hq
            omega
        · have hwb : wn = b := by omega
          subst hwb
          cases hc with
          | nil =>
            walk_at "sx"
            exact ⟨_, wn, ls, pp, [], rfl, k2, ho, hls, .nil, ep, Nat.zero_le _, hw⟩
          | cons a h1 h2 hc2 => exact absurd rfl h1
      · rintro σ H2 ⟨y5, wn, ls, pp, qq, rfl, k2, ho, hls, hc, ep, hq, hw⟩
        have eq0 : qq = [] := List.eq_nil_of_length_eq_zero (by omega)
        subst eq0
        rw [List.append_nil] at ep
        subst ep
        have ht : H2 ta = some (.lst (flV (fun v => oV (S.d v)) n)) := k2 ta _ ota (s5 _ _ hB.tot)
        walk_at "sx"
        refine q_ixLn ht (flV_get hg) ?_
        rw [wf g hg]
        walk_at "sx"
        refine ⟨o, ls, rfl, .of ho, fun rv nrv => ?_⟩
        walk_at "sx"
        refine ⟨two_line, fun r nr => ?_⟩
        have s6 : Same H2 (upd H2 rv (.lst ls.reverse)) := same_upd nrv
        have s7 : Same (upd H2 rv (.lst ls.reverse)) (upd (upd H2 rv (.lst ls.reverse)) r (.tup [.int (Df g), .ref rv])) := same_upd nr
        have sH2 : Same H H2 := fun x u e => k2 x u (fun z => by rw [z, noH] at e; cases e) (s5 x u (s4 x u e))
        refine q _ r rv ls.reverse pp.reverse ((sH2.trans s6).trans s7) upd_same (sH2.free nrv) (s7 _ _ upd_same) (Paired.rev ?_) way
        exact Paired.mapP hls fun v a ⟨u, e, t⟩ => ⟨u, e, Same.sqt s7 (Same.sqt s6 t)⟩
end
end Kt

namespace Kt
open PySem PySem.Spec PyProof.Rows L2
local macro_rules
  | `(tactic| walk_at "sx") => `(tactic| repeat (first
    | with_reducible refine q_seq ?_ | with_reducible refine q_par ?_ | with_reducible refine q_augS ?_ | with_reducible refine q_rev ?_ | with_reducible refine q_yes ?_ | with_reducible refine q_gname ?_ | with_reducible refine q_setG ?_ | with_reducible refine q_ip ?_ | with_reducible refine q_asg ?_ | with_reducible refine q_asgG ?_ | with_reducible refine q_ret ?_ | with_reducible refine q_drop ?_ | with_reducible refine q_if ?_ | with_reducible refine q_next ?_
    | with_reducible refine q_test ?_ | with_reducible refine q_tB ?_ | with_reducible refine q_chain ?_ | with_reducible refine q_andV ?_ | with_reducible refine q_bl ?_ | with_reducible refine q_exint ?_ | ((with_reducible show tAug _ _ _ _ _ _); refine q_aug rfl ?_) | with_reducible refine q_not ?_ | with_reducible refine q_and ?_ | with_reducible refine q_or ?_
    | with_reducible refine q_op ?_ | with_reducible refine q_un ?_ | with_reducible refine q_c ?_ | ((with_reducible show tVar _ _ _ _); refine q_var rfl ?_)
    | with_reducible refine q_i0 ?_ | with_reducible refine q_u ?_ | with_reducible refine q_eq ?_ | with_reducible refine q_ne ?_ | with_reducible refine q_isN ?_ | with_reducible refine q_notN ?_ | with_reducible refine q_min2 ?_ | with_reducible refine q_abs ?_ | with_reducible refine q_int ?_
    | with_reducible refine q_nil ?_ | with_reducible refine q_cons ?_ | with_reducible refine q_tup ?_ | with_reducible refine q_lst ?_ | with_reducible refine q_call ?_ | with_reducible refine q_makeN ?_ | with_reducible refine q_make ?_ | with_reducible refine q_cb ?_
    | ((with_reducible show ite _ _ _); first | refine ift rfl ?_ | refine iff' rfl ?_)))
-- slots: 0 size 1 rows 2 flows 3 begin 4 goal 5 length 6 links 7 units 8 index 9 sign
abbrev s_way_left : Stmt := topS 28
theorem sc_way_left : FnScope ["size", "rows", "flows", "begin", "goal", "length", "links", "units", "index", "sign"] ["size", "rows", "flows", "begin", "goal"] (defScope s_way_left) := ⟨rfl, rfl, rfl, by decide +kernel, rfl, by decide +kernel, by decide +kernel⟩
-- slots: 0 size 1 rows 2 flows 3 sign 4 row 5 begin 6 goal 7 own 8 change 9 length 10 links 11 units
abbrev s_push_row : Stmt := topS 30
theorem sc_push_row : FnScope ["size", "rows", "flows", "sign", "row", "begin", "goal", "own", "change", "length", "links", "units"] ["size", "rows", "flows", "sign"] (defScope s_push_row) := ⟨rfl, rfl, rfl, by decide +kernel, rfl, by decide +kernel, by decide +kernel⟩
section
variable {P : Program} {w : World} {K : PySem.W.Frag} {mg : Str → Option Value} {base : Heap}
theorem units_snoc {R : Nat → Kw.Row} {F : Nat → Int} {a : Kw.Arc} : ∀ {p : List Kw.Arc} {u : Option Int}, Kw.unitsOf R F (p ++ [a]) u = Kw.lesser (Kw.unitsOf R F p u) ((Kw.chg (R a.ix) (F a.ix) a.sg).bind (·.2))
  | [], _ => rfl
  | b :: p, u => by
    show Kw.unitsOf R F (p ++ [a]) _ = _
    rw [units_snoc]
    rfl
theorem take_snoc {α : Type} {l : List α} {i : Nat} {a : α} (h : l[i]? = some a) : l.take (i + 1) = l.take i ++ [a] := by
  rw [List.take_add_one, h]
  rfl
def spWay (K : PySem.W.Frag) : Sp := fun vs H Q _ => ∃ (n : Nat) (ra fa : Addr) (b g : Nat) (R : Nat → Kw.Row) (F : Nat → Int) (m k : Nat) (Df : Nat → Int), vs = [.int n, .ref ra, .ref fa, .int b, .int g] ∧ n ≤ 1000 ∧ RowsAt K H ra R m ∧ H fa = some (.lst (flV (fun i => .int (F i)) k)) ∧ k ≤ m ∧ k ≤ 1000 ∧
  (∀ i, i < k → Kw.FlowOk (R i) (F i)) ∧ Kw.Dist n (Kw.lArcs R F k) b Df ∧ g < n ∧
  ∀ H' r la ls p, Same H H' → H' r = some (.tup [.int (Df g), .ref la, oV (Kw.unitsOf R F p none)]) → H la = none → H' la = some (.lst ls) → LinkVs K H' ls p → Kw.Way n (Kw.lArcs R F k) b g Df p → Q (.ref r) H'
theorem ok_way_left (D : Dk K mg "way_left" s_way_left) (h_walk_of : Has P w K mg base CX0 2 "walk_of" ["size", "arcs", "first", "second"] (spWalk K)) (h_left_arcs : Has P w K mg base CX0 3 "left_arcs" ["rows", "flows"] (spLeft K))
    (h_lesser : Has P w K mg base CX0 1 "lesser" ["units", "other"] spLesser) (h_change_of : Has P w K mg base CX0 2 "change_of" ["row", "flow", "sign"] (spChange K)) :
    Has P w K mg base CX0 4 "way_left" ["size", "rows", "flows", "begin", "goal"] (spWay K) := by
  have sc := sc_way_left
  refine D.has0 sc (fun vs H Q E h => ?_) (fun _ _ _ _ _ _ us hl => match us, hl with | [_, _, _, _, _], _ => rfl) (fun f cdv A outer s H vs Q E hr h => ?_)
  · obtain ⟨n, ra, fa, b, g, R, F, m, k, Df, rfl, _⟩ := h
    rfl
  · obtain ⟨n, ra, fa, b, g, R, F, m, k, Df, rfl, hn, hR, hF, km, k1, fok, Z, hg, q⟩ := h
    refine ⟨_, (pss_cons (ps_asg (pe_has h_walk_of (hr.mono (by decide)) pass0 (pa_cons (pv 0) (pa_cons (pe_has h_left_arcs (hr.mono (by decide)) pass0 (pa_cons (pv 1) (pa_cons (pv 2) pa_nil))) (pa_cons (pv 3) (pa_cons (pv 4) pa_nil))))) (pg_tupK (K := K) (n := 2) rfl rfl (pgs_cons (pg_name (i := 5) sc.nd rfl (Or.inl rfl)) (pgs_cons (pg_name (i := 6) sc.nd rfl (Or.inl rfl)) pgs_nil))))
       (pss_cons (ps_set (i := 7) sc.nd rfl (Or.inl rfl) pe_non)
       (pss_cons (ps_for PassesOwn.never rfl (pi_listK (K := K) rfl (pv 6)) (pg_tupK (K := K) (n := 2) rfl rfl (pgs_cons (pg_name (i := 8) sc.nd rfl (Or.inl rfl)) (pgs_cons (pg_name (i := 9) sc.nd rfl (Or.inl rfl)) pgs_nil)))
        (pss_one (ps_set (i := 7) sc.nd rfl (Or.inl rfl) (pe_has h_lesser (hr.mono (by decide)) pass0 (pa_cons (pv 7) (pa_cons (pe_ixT (K := K) rfl (pe_has h_change_of (hr.mono (by decide)) pass0 (pa_cons (pe_ixL (K := K) rfl (pv 1) (pv 8) (fun _ _ => rfl)) (pa_cons (pe_ixL (K := K) rfl (pv 2) (pv 8) (fun _ _ => rfl)) (pa_cons (pv 9) pa_nil)))) pe_int (fun _ _ => rfl)) pa_nil))))))
       (pss_one (ps_ret (pe_tup (pa_cons (pv 5) (pa_cons (pv 6) (pa_cons (pv 7) pa_nil))))))))), ?_⟩
    walk_at "sx"
    refine ⟨ra, fa, R, F, m, k, rfl, hR, .of hF, km, k1, fok, fun H1 o av s1 no ho hv => ?_⟩
    walk_at "sx"
    refine ⟨n, o, b, g, av, _, Df, rfl, hn, ho, hv, Z, hg, fun H2 r la ls p s2 hr2 nla hla hls way => ?_⟩
    have s12 := s1.trans s2
    walk_at "sx"
    refine q_g2 (.of hr2) ?_
    walk_at "sx"
    refine q_forL rfl ⟨la, ls, rfl, .of hla, fun i σ H' => ∃ y8 y9, σ = [some (.int n), some (.ref ra), some (.ref fa), some (.int b), some (.int g), some (.int (Df g)), some (.ref la), some (oV (Kw.unitsOf R F (p.take i) none)), y8, y9] ∧ Same H2 H', ?_, ?_, ?_, ?_⟩
    · exact ⟨_, _, rfl, Same.refl _⟩
    · rintro i σ H' hi ⟨y8, y9, rfl, s3⟩
      exact .of (s3 _ _ hla)
    · rintro i x σ H' hx ⟨y8, y9, rfl, s3⟩
      obtain ⟨a, ea, u, rfl, hu⟩ := paired_r hls hx
      have hm := way.mem a (List.mem_of_getElem? ea)
      obtain ⟨h1, h2, ⟨un, h3⟩, _⟩ := Kw.mem_lArcs hm
      have sH : Same H H' := s12.trans s3
      obtain ⟨rv, r1, r2, r3⟩ := (hR.same sH).ex
      obtain ⟨rp, r4, r5⟩ := r3 a.ix (by omega)
      have hF' := sH _ _ hF
      refine q_g2 (Same.sqt s3 hu) ?_
      walk_at "sx"
      refine q_ixLn r1 r4 ?_
      walk_at "sx"
      refine q_ixLn hF' (flV_get h1) ?_
      walk_at "sx"
      refine ⟨rp, R a.ix, F a.ix, a.sg, rfl, r5, h2, fok _ h1, ?_⟩
      refine chR_of (fun e => ?_) (fun l u2 p2 e hp2 => ?_)
      · rw [h3] at e
        cases e
      · walk_at "sx"
        refine q_ixT (.of upd_same) rfl ?_
        walk_at "sx"
        refine ⟨_, u2, rfl, ?_⟩
        refine ⟨some (.int a.ix), some (.int a.sg), ?_, s3.trans (same_upd hp2)⟩
        rw [take_snoc ea, units_snoc, e]
        rfl
    · rintro σ H' ⟨y8, y9, rfl, s3⟩
      rw [Paired.length hls, List.take_length]
      walk_at "sx"
      refine ⟨line_le (n := 3) (by decide), fun r3 nr3 => ?_⟩
      have s4 := same_upd (o := .tup [.int (Df g), .ref la, oV (Kw.unitsOf R F p none)]) nr3
      refine q _ r3 la ls p ((s12.trans s3).trans s4) upd_same (s1.free nla) (s4 _ _ (s3 _ _ hla)) ?_ way
      exact Paired.mapP hls fun v a ⟨u, e, t⟩ => ⟨u, e, Same.sqt s4 (Same.sqt s3 t)⟩
theorem soft_units {r : Kw.Row} {wt : Int} (h : r.rm = some wt) {x sg c : Int} {u : Option Int} (e : Kw.chg r x sg = some (c, u)) : ∃ v, u = some v := by
  unfold Kw.chg at e
  split at e
  · rcases Kw.raise_len e with ⟨_, _, e3⟩ | ⟨_, _, ⟨e3, _⟩ | ⟨_, _, _, e4⟩⟩
    · exact ⟨_, e3⟩
    · rw [h] at e3
      cases e3
    · exact ⟨_, e4⟩
  · rcases Kw.raise_len e with ⟨_, _, e3⟩ | ⟨_, _, ⟨e3, _⟩ | ⟨_, _, _, e4⟩⟩
    · exact ⟨_, e3⟩
    · rw [h] at e3
      cases e3
    · exact ⟨_, e4⟩
def spPush (K : PySem.W.Frag) : Sp := fun vs H Q _ => ∃ (n : Nat) (ra fa : Addr) (sg : Int) (R : Nat → Kw.Row) (F : Nat → Int) (h m k : Nat) (wt : Int), vs = [.int n, .ref ra, .ref fa, .int sg] ∧ n ≤ 1000 ∧ (sg = 1 ∨ sg = -1) ∧ RowsAt K H ra R m ∧ H fa = some (.lst (flV (fun i => .int (F i)) k)) ∧ ra ≠ fa ∧ k < m ∧ k ≤ 1000 ∧ h ≤ k ∧
  Kw.Base n h m R ∧ (R k).rm = some wt ∧ Kw.Done k R F ∧ ∀ H' F' own, Keep (· = fa) H H' → H' fa = some (.lst (flV (fun i => .int (F' i)) k)) → Kw.PEnd k R (R k) sg F F' own → Q (.int own) H'
theorem ok_push_row (D : Dk K mg "push_row" s_push_row) (fr : Fr mg) (h_way_left : Has P w K mg base CX0 4 "way_left" ["size", "rows", "flows", "begin", "goal"] (spWay K)) (h_send : Has P w K mg base CX0 1 "send" ["flows", "links", "units"] (spSend K))
    (h_lesser : Has P w K mg base CX0 1 "lesser" ["units", "other"] spLesser) (h_change_of : Has P w K mg base CX0 2 "change_of" ["row", "flow", "sign"] (spChange K)) :
    Has P w K mg base CX0 5 "push_row" ["size", "rows", "flows", "sign"] (spPush K) := by
  have sc := sc_push_row
  refine D.has0 sc (fun vs H Q E h => ?_) (fun _ _ _ _ _ _ us hl => match us, hl with | [_, _, _, _], _ => rfl) (fun f cdv A outer s H vs Q E hr h => ?_)
  · obtain ⟨n, ra, fa, sg, R, F, h, m, k, wt, rfl, _⟩ := h
    rfl
  · obtain ⟨n, ra, fa, sg, R, F, h, m, k, wt, rfl, hn, hs, hR, hF, nrf, km, k1, hk, B, hw, dn, q⟩ := h
    refine ⟨_, (pss_cons (ps_set (i := 4) sc.nd rfl (Or.inl rfl) (pe_ixL (K := K) rfl (pv 1) (pe_callB (id := "len") (c_len (K := K) rfl) (by rfl) fr.len (by decide +kernel) (pa_cons (pv 2) pa_nil)) (fun _ _ => rfl)))
       (pss_cons (ps_par (i := 5) (j := 6) (by rfl) sc.nd rfl rfl (by decide) rfl rfl (pa_cons (pe_ixT (K := K) rfl (pv 4) pe_int (fun _ _ => rfl)) (pa_cons (pe_ixT (K := K) rfl (pv 4) pe_int (fun _ _ => rfl)) pa_nil)) (by rfl))
       (pss_mid (ps_if (pt_cmpR op_eq (pv 3) (pe_un un_neg pe_int) (nomark _)) (pss_one (ps_par (i := 5) (j := 6) (by rfl) sc.nd rfl rfl (by decide) rfl rfl (pa_cons (pv 6) (pa_cons (pv 5) pa_nil)) (by rfl))) pss_nil)
       (pss_cons (ps_set (i := 7) sc.nd rfl (Or.inl rfl) pe_int)
       (pss_one (ps_while PassesOwn.never (pt_val pe_bl)
        (pss_cons (ps_set (i := 8) sc.nd rfl (Or.inl rfl) (pe_has h_change_of (hr.mono (by decide)) pass0 (pa_cons (pv 4) (pa_cons (pv 7) (pa_cons (pv 3) pa_nil)))))
       (pss_cons (ps_if (pt_cmpR o_isN (pv 8) pe_non (nomark _)) (pss_one (ps_ret (pv 7))) pss_nil)
       (pss_cons (ps_asg (pe_has h_way_left (hr.mono (by decide)) pass0 (pa_cons (pv 0) (pa_cons (pv 1) (pa_cons (pv 2) (pa_cons (pv 5) (pa_cons (pv 6) pa_nil)))))) (pg_tupK (K := K) (n := 3) rfl rfl (pgs_cons (pg_name (i := 9) sc.nd rfl (Or.inl rfl)) (pgs_cons (pg_name (i := 10) sc.nd rfl (Or.inl rfl)) (pgs_cons (pg_name (i := 11) sc.nd rfl (Or.inl rfl)) pgs_nil)))))
       (pss_cons (ps_if (pt_cmpR op_ge (pe_op op_add (pv 9) (pe_ixT (K := K) rfl (pv 8) pe_int (fun _ _ => rfl))) pe_int (nomark _)) (pss_one (ps_ret (pv 7))) pss_nil)
       (pss_cons (ps_set (i := 11) sc.nd rfl (Or.inl rfl) (pe_has h_lesser (hr.mono (by decide)) pass0 (pa_cons (pv 11) (pa_cons (pe_ixT (K := K) rfl (pv 8) pe_int (fun _ _ => rfl)) pa_nil))))
       (pss_cons (ps_expr (pe_has h_send (hr.mono (by decide)) pass0 (pa_cons (pv 2) (pa_cons (pv 10) (pa_cons (pv 11) pa_nil)))))
       (pss_one (ps_aug (i := 7) sc.nd rfl (Or.inl rfl) (pe_op op_mul (pv 3) (pv 11)) ip_add)))))))))))))), ?_⟩
    obtain ⟨rv, r1, r2, r3⟩ := hR.ex
    obtain ⟨rp, r4, r5⟩ := r3 k km
    have wl : ∀ b, b = fa → ∃ xs, H b = some (.lst xs) := fun b e => by rw [e]; exact ⟨_, hF⟩
    walk_at "sx"
    refine q_len (.of hF) ?_
    refine q_ixLn r1 (by rw [flV_len]; exact r4) ?_
    walk_at "sx"
    refine q_ixT r5 rfl ?_
    walk_at "sx"
    refine q_ixT r5 rfl ?_
    walk_at "sx"
    refine ⟨_, _, rfl, ?_⟩
    refine ⟨fun σ H' => H' = H ∧ σ = [some (.int n), some (.ref ra), some (.ref fa), some (.int sg), some (.ref rp), some (.int (Kw.bg (R k) sg)), some (.int (Kw.gl (R k) sg)), none, none, none, none, none], ?_, ?_⟩
    · walk_at "sx"
      refine ifd (fun e => ?_) (fun e => ?_)
      · subst e
        walk_at "sx"
        refine ⟨_, _, rfl, rfl, ?_⟩
        rw [Kw.bg_dn, Kw.gl_dn]
        rfl
      · have e1 : sg = 1 := by omega
        subst e1
        walk_at "sx"
        refine ⟨rfl, ?_⟩
        rw [Kw.bg_up, Kw.gl_up]
        rfl
    · rintro σ H' ⟨rfl, rfl⟩
      walk_at "sx"
      refine ⟨fun mm σ H1 => ∃ F1 own y8 y9 y10 y11, mm = (wt - sg * own).toNat ∧ σ = [some (.int n), some (.ref ra), some (.ref fa), some (.int sg), some (.ref rp), some (.int (Kw.bg (R k) sg)), some (.int (Kw.gl (R k) sg)), some (.int own), y8, y9, y10, y11] ∧ Keep (· = fa) H' H1 ∧ H1 fa = some (.lst (flV (fun i => .int (F1 i)) k)) ∧ Kw.PI k R (R k) sg F F1 own, ?_, ?_⟩
      · exact ⟨_, F, 0, none, none, none, none, rfl, rfl, Keep.refl _ _, hF, dn.start (B.rok k km) sg⟩
      · rintro mm σ H1 ⟨F1, own, y8, y9, y10, y11, rfl, rfl, k2, hf, I⟩
        walk_at "sx"
        refine ⟨_, fun _ _ h => h, ?_⟩
        walk_at "sx"
        have kr := k2.rows wl nrf hR
        have hr5 : SqT K H1 rp [.int (R k).f, .int (R k).s, oV (R k).lo, oV (R k).hi, oV (R k).rm] := k2.sqt wl r5
        refine ⟨rp, R k, own, sg, rfl, hr5, hs, I.ofok, ?_⟩
        refine chR_of (fun ec => ?_) (fun c u p ec hp => ?_)
        · walk_at "sx"
          exact q H1 F1 own k2 hf (Kw.push_full hs I ec)
        · obtain ⟨v, rfl⟩ := soft_units hw ec
          have sP : Same H1 (upd H1 p (.tup [.int c, oV (some v)])) := same_upd hp
          have wl1 : ∀ b, b = fa → ∃ xs, H1 b = some (.lst xs) := fun b e => by rw [e]; exact ⟨_, hf⟩
          obtain ⟨π, hπ, _⟩ := I.pot
          have nodes := B.nodes k km
          have bl : Kw.bg (R k) sg < n := by
            unfold Kw.bg
            split
            · exact nodes.1
            · exact nodes.2
          have gll : Kw.gl (R k) sg < n := by
            unfold Kw.gl
            split
            · exact nodes.2
            · exact nodes.1
          obtain ⟨Df, Z⟩ := Kw.left_dist B hk (Nat.le_of_lt km) ⟨π, hπ⟩ bl
          walk_at "sx"
          refine ⟨n, ra, fa, Kw.bg (R k) sg, Kw.gl (R k) sg, R, F1, m, k, Df, rfl, hn, kr.same sP, sP _ _ hf, Nat.le_of_lt km, k1, I.fok, Z, gll, fun H2 r la ls pp s2 hr2 nla hla hls way => ?_⟩
          have s12 := sP.trans s2
          walk_at "sx"
          refine q_g3 (.of hr2) ?_
          walk_at "sx"
          refine q_ixT (Same.sqt s2 (.of upd_same)) rfl ?_
          walk_at "sx"
          refine ifd (fun e => ?_) (fun e => ?_)
          · walk_at "sx"
            exact q H2 F1 own (k2.trans (Same.keep s12)) (s12 _ _ hf) (Kw.push_stop hs I ec way.pot way.at0 (by omega))
          · obtain ⟨t, et, t1, I2, eq⟩ := Kw.push_step hs (fun i hi => B.rok i (by omega)) (B.rok k km) I ec way (by omega)
            walk_at "sx"
            refine q_ixT (Same.sqt s2 (.of upd_same)) rfl ?_
            walk_at "sx"
            refine ⟨_, some v, rfl, ?_⟩
            rw [et]
            walk_at "sx"
            have hf2 := s12 _ _ hf
            refine ⟨fa, la, F1, k, t, ls, pp, rfl, hf2, .of hla, hls, (ne_of_none hf (sP.free nla)).symm, fun a ha => ?_, fun H3 k3 hf3 => ?_⟩
            · obtain ⟨h1, h2, _⟩ := Kw.mem_lArcs (way.mem a ha)
              exact ⟨h1, h2⟩
            · walk_at "sx"
              refine q_i (cmul_l (by rcases hs with e | e <;> rw [e] <;> decide)) ?_
              walk_at "sx"
              have wr := I.ofok.rm wt hw
              have wr2 := I2.ofok.rm wt hw
              refine ⟨_, ?_, Kw.send t pp F1, own + sg * t, _, _, _, _, rfl, rfl, (k2.trans (Same.keep s12)).trans k3, hf3, I2⟩
              rw [eq]
              have : sg * own ≤ wt := by
                rcases hs with e | e <;> rw [e] <;> omega
              have : sg * own + t ≤ wt := by
                rw [← eq]
                rcases hs with e | e <;> rw [e] <;> rw [e] at wr2 <;> omega
              omega
end
end Kt

namespace Kt
open PySem PySem.Spec PyProof.Rows L2
local macro_rules
  | `(tactic| walk_at "sx") => `(tactic| repeat (first
    | with_reducible refine q_seq ?_ | with_reducible refine q_par ?_ | with_reducible refine q_augS ?_ | with_reducible refine q_rev ?_ | with_reducible refine q_yes ?_ | with_reducible refine q_gname ?_ | with_reducible refine q_setG ?_ | with_reducible refine q_ip ?_ | with_reducible refine q_asg ?_ | with_reducible refine q_asgG ?_ | with_reducible refine q_ret ?_ | with_reducible refine q_drop ?_ | with_reducible refine q_if ?_ | with_reducible refine q_next ?_
    | with_reducible refine q_test ?_ | with_reducible refine q_tB ?_ | with_reducible refine q_chain ?_ | with_reducible refine q_andV ?_ | with_reducible refine q_bl ?_ | with_reducible refine q_exint ?_ | ((with_reducible show tAug _ _ _ _ _ _); refine q_aug rfl ?_) | with_reducible refine q_not ?_ | with_reducible refine q_and ?_ | with_reducible refine q_or ?_
    | with_reducible refine q_op ?_ | with_reducible refine q_un ?_ | with_reducible refine q_c ?_ | ((with_reducible show tVar _ _ _ _); refine q_var rfl ?_)
    | with_reducible refine q_i0 ?_ | with_reducible refine q_u ?_ | with_reducible refine q_eq ?_ | with_reducible refine q_ne ?_ | with_reducible refine q_isN ?_ | with_reducible refine q_notN ?_ | with_reducible refine q_min2 ?_ | with_reducible refine q_abs ?_ | with_reducible refine q_int ?_
    | with_reducible refine q_nil ?_ | with_reducible refine q_cons ?_ | with_reducible refine q_tup ?_ | with_reducible refine q_lst ?_ | with_reducible refine q_call ?_ | with_reducible refine q_makeN ?_ | with_reducible refine q_make ?_ | with_reducible refine q_cb ?_
    | ((with_reducible show ite _ _ _); first | refine ift rfl ?_ | refine iff' rfl ?_)))
-- slots: 0 size 1 hard 2 soft 3 rows 4 flows 5 _ 6 own
abbrev s_pushed : Stmt := topS 31
theorem sc_pushed : FnScope ["size", "hard", "soft", "rows", "flows", "_", "own"] ["size", "hard", "soft"] (defScope s_pushed) := ⟨rfl, rfl, rfl, by decide +kernel, rfl, by decide +kernel, by decide +kernel⟩
section
variable {P : Program} {w : World} {K : PySem.W.Frag} {mg : Str → Option Value} {base : Heap}
theorem Same.keepNew {H H1 H2 : Hp} {a : Addr} (s : Same H H1) (k : Keep (· = a) H1 H2) (n : H a = none) : Same H H2 := fun b o e => k b o (fun z => by rw [z, n] at e; cases e) (s b o e)
def spPushed (K : PySem.W.Frag) : Sp := fun vs H Q _ => ∃ (n : Nat) (ha sa : Addr) (R : Nat → Kw.Row) (h s : Nat), vs = [.int n, .ref ha, .ref sa] ∧ n ≤ 1000 ∧ h + s ≤ 1000 ∧ RowsAt K H ha R h ∧ RowsAt K H sa (fun i => R (h + i)) s ∧ Kw.Base n h (h + s) R ∧
  (∀ i, i < s → ∃ wt, (R (h + i)).rm = some wt) ∧ (∃ x : Nat → Int, ∀ i, i < h → (∀ a, (R i).lo = some a → a ≤ Kw.dif x (R i)) ∧ ∀ b, (R i).hi = some b → Kw.dif x (R i) ≤ b) ∧
  ∀ H' fa F, Same H H' → H fa = none → H' fa = some (.lst (flV (fun i => .int (F i)) (h + s))) → Kw.Done (h + s) R F → Q (.ref fa) H'
theorem rows_cat {H H1 : Hp} {a b c : Addr} {R : Nat → Kw.Row} {h s : Nat} {xs ys : List V} (s1 : Same H H1) (A1 : RowsAt K H a R h) (B1 : RowsAt K H b (fun i => R (h + i)) s) (ea : H a = some (.lst xs)) (eb : H b = some (.lst ys)) (ec : H1 c = some (.lst (xs ++ ys))) : RowsAt K H1 c R (h + s) := by
  obtain ⟨v1, a1, a2, a3⟩ := A1.ex
  obtain ⟨v2, b1, b2, b3⟩ := B1.ex
  rw [ea] at a1
  rw [eb] at b1
  cases a1
  cases b1
  refine ⟨_, ec, by rw [List.length_append, a2, b2], fun i hi => ?_⟩
  by_cases q : i < h
  · obtain ⟨p, p1, p2⟩ := a3 i q
    refine ⟨p, ?_, Same.sqt s1 p2⟩
    rw [List.getElem?_append_left (by omega)]
    exact p1
  · obtain ⟨p, p1, p2⟩ := b3 (i - h) (by omega)
    rw [show h + (i - h) = i by omega] at p2
    refine ⟨p, ?_, Same.sqt s1 p2⟩
    rw [List.getElem?_append_right (by omega), a2]
    exact p1
theorem ok_pushed (D : Dk K mg "pushed" s_pushed) (h_push_row : Has P w K mg base CX0 5 "push_row" ["size", "rows", "flows", "sign"] (spPush K)) :
    Has P w K mg base CX0 6 "pushed" ["size", "hard", "soft"] (spPushed K) := by
  have sc := sc_pushed
  refine D.has0 sc (fun vs H Q E h => ?_) (fun _ _ _ _ _ _ us hl => match us, hl with | [_, _, _], _ => rfl) (fun f cdv A outer s H vs Q E hr h => ?_)
  · obtain ⟨n, ha, sa, R, h, s, rfl, _⟩ := h
    rfl
  · obtain ⟨n, ha, sa, R, h, s, rfl, hn, hz, hA, hS, B, hw, hx, q⟩ := h
    refine ⟨_, (pss_cons (ps_set (i := 3) sc.nd rfl (Or.inl rfl) (pe_op op_cat (pv 1) (pv 2)))
       (pss_cons (ps_setLc (i := 4) (own := [("_", 5)]) (g := gName 5) (tt := tYes) rfl sc.nd rfl rfl (sw_true rfl rfl rfl (by decide +kernel)) (pi_listK (K := K) rfl (pv 1)) (blkOk_by (by kernel_rfl)) (fun _ _ _ _ _ => (pg_name (i := 5) sc.nd rfl (Or.inl rfl))) (fun _ _ _ _ _ => pts_nil) (fun _ _ _ _ _ => pe_int))
       (pss_cons (ps_for PassesOwn.never rfl (pi_listK (K := K) rfl (pv 2)) (pg_name (i := 5) sc.nd rfl (Or.inl rfl))
        (pss_cons (ps_set (i := 6) sc.nd rfl (Or.inl rfl) (pe_has h_push_row (hr.mono (by decide)) pass0 (pa_cons (pv 0) (pa_cons (pv 3) (pa_cons (pv 4) (pa_cons pe_int pa_nil))))))
       (pss_mid (ps_if (pt_cmpR op_eq (pv 6) pe_int (nomark _)) (pss_one (ps_set (i := 6) sc.nd rfl (Or.inl rfl) (pe_has h_push_row (hr.mono (by decide)) pass0 (pa_cons (pv 0) (pa_cons (pv 3) (pa_cons (pv 4) (pa_cons (pe_un un_neg pe_int) pa_nil))))))) pss_nil)
       (pss_one (ps_expr (bmK (K := K) (pe_bm PySem.F.plainAttrs_list PySem.F.slot_list_append PySem.F.type_list_append mt_append (pv 4) (pa_cons (pv 6) pa_nil)) rfl))))))
       (pss_one (ps_ret (pv 4)))))), ?_⟩
    obtain ⟨v1, a1, a2, a3⟩ := hA.ex
    obtain ⟨v2, b1, b2, b3⟩ := hS.ex
    walk_at "sx"
    refine ⟨ha, sa, v1, v2, rfl, rfl, a1, b1, line_le (by omega), fun rw_ nrw => ?_⟩
    have s1 : Same H (upd H rw_ (.lst (v1 ++ v2))) := same_upd nrw
    have hR := rows_cat s1 hA hS a1 b1 (upd_same (H := H) (a := rw_) (o := .lst (v1 ++ v2)))
    generalize upd H rw_ (.lst (v1 ++ v2)) = H1 at s1 hR ⊢
    walk_at "sx"
    refine q_lcL rfl (.of (s1 _ _ a1)) fun fa nfa => ⟨fun i H' => i ≤ h ∧ H' = upd H1 fa (.lst (flV (fun _ => .int 0) i)), ⟨Nat.zero_le _, rfl⟩, ?_, ?_, ?_⟩
    · rintro i H' hi ⟨_, rfl⟩
      exact .of (same_upd nfa _ _ (s1 _ _ a1))
    · rintro i x H' hx1 ⟨_, rfl⟩
      have hi : i < h := by
        have := (List.getElem?_eq_some_iff.mp hx1).1
        omega
      refine q_gname ?_
      refine ⟨wipe1, ?_⟩
      walk_at "sx"
      refine ⟨_, upd_same, by rw [flV_len]; exact line_of (by omega), hi, ?_⟩
      rw [upd_upd]
      congr 1
      show HO.lst (flV (fun _ => .int 0) i ++ [(fun _ => V.int 0) i]) = _
      rw [flV_snoc]
    · rintro H' ⟨_, rfl⟩
      rw [a2]
      have s2 : Same H1 (upd H1 fa (.lst (flV (fun _ => .int 0) h))) := same_upd nfa
      have nfaH : H fa = none := s1.free nfa
      have rne : rw_ ≠ fa := by
        obtain ⟨vv, c1, _⟩ := hR.ex
        exact ne_of_none c1 nfa
      obtain ⟨x, hx⟩ := hx
      have d0 : Kw.Done h R (fun _ => 0) := Kw.Done.hard (fun _ _ => rfl) (fun i hi => (B.hard i hi).1) hx
      walk_at "sx"
      refine q_forL rfl ⟨sa, v2, rfl, .of (s2 _ _ (s1 _ _ b1)), fun i σ H' => ∃ y5 y6 F, σ = [some (.int n), some (.ref ha), some (.ref sa), some (.ref rw_), some (.ref fa), y5, y6] ∧ Keep (· = fa) (upd H1 fa (.lst (flV (fun _ => .int 0) h))) H' ∧ H' fa = some (.lst (flV (fun m => .int (F m)) (h + i))) ∧ Kw.Done (h + i) R F, ?_, ?_, ?_, ?_⟩
      · exact ⟨_, _, fun _ => 0, rfl, Keep.refl _ _, upd_same, d0⟩
      · rintro i σ H' hi ⟨y5, y6, F, rfl, k3, hf, dn⟩
        exact .of (k3 sa _ (ne_of_none (s1 _ _ b1) nfa) (s2 _ _ (s1 _ _ b1)))
      · rintro i x1 σ H' hx1 ⟨y5, y6, F, rfl, k3, hf, dn⟩
        have hi : i < s := by
          have := (List.getElem?_eq_some_iff.mp hx1).1
          omega
        obtain ⟨wt, hwt⟩ := hw i hi
        have wl0 : ∀ b, b = fa → ∃ xs, (upd H1 fa (.lst (flV (fun _ => V.int 0) h))) b = some (.lst xs) := fun b e => by rw [e]; exact ⟨_, upd_same⟩
        have hR1 : RowsAt K H' rw_ R (h + s) := k3.rows wl0 rne (hR.same s2)
        have wl : ∀ b, b = fa → ∃ xs, H' b = some (.lst xs) := fun b e => by rw [e]; exact ⟨_, hf⟩
        walk_at "sx"
        refine ⟨n, rw_, fa, 1, R, F, h, h + s, h + i, wt, rfl, hn, .inl rfl, hR1, hf, rne, by omega, by omega, by omega, B, hwt, dn, fun H2 F1 own k4 hf1 E1 => ?_⟩
        refine ⟨fun σ H3 => ∃ y5 F2 own2, σ = [some (.int n), some (.ref ha), some (.ref sa), some (.ref rw_), some (.ref fa), y5, some (.int own2)] ∧ Keep (· = fa) H' H3 ∧ H3 fa = some (.lst (flV (fun m => .int (F2 m)) (h + i))) ∧ Kw.Done (h + i + 1) R (Kw.put F2 (h + i) own2), ?_, ?_⟩
        · walk_at "sx"
          refine ifd (fun e => ?_) (fun e => ?_)
          · subst e
            obtain ⟨_, π, hπ, _⟩ := E1.no rfl
            have dn1 : Kw.Done (h + i) R F1 := ⟨E1.fok, fun x => by have := E1.bal x; rw [Int.zero_mul] at this; omega, ⟨π, hπ⟩⟩
            walk_at "sx"
            refine ⟨n, rw_, fa, -1, R, F1, h, h + s, h + i, wt, rfl, hn, .inr rfl, k4.rows wl rne hR1, hf1, rne, by omega, by omega, by omega, B, hwt, dn1, fun H3 F2 own2 k5 hf2 E2 => ?_⟩
            refine ⟨_, F2, own2, rfl, k4.trans k5, hf2, ?_⟩
            refine Kw.Done.next E2.fok E2.ofok E2.bal ?_ (fun j hj => Kw.put_ne (by omega)) Kw.put_same
            by_cases z : own2 = 0
            · subst z
              exact Kw.two_ends (B.rok _ (by omega)) E1 E2
            · exact E2.yes z
          · walk_at "sx"
            refine ⟨_, F1, own, rfl, k4, hf1, ?_⟩
            exact Kw.Done.next E1.fok E1.ofok E1.bal (E1.yes e) (fun j hj => Kw.put_ne (by omega)) Kw.put_same
        · rintro σ H3 ⟨y5, F2, own2, rfl, k6, hf2, dn2⟩
          walk_at "sx"
          refine q_appV rfl hf2 ?_
          walk_at "sx"
          refine q_rapp hf2 (by rw [flV_len]; exact line_of (by omega)) ?_
          walk_at "sx"
          refine ⟨_, _, Kw.put F2 (h + i) own2, rfl, (k3.trans k6).upd rfl, ?_, dn2⟩
          rw [upd_same]
          congr 2
          have e1 : flV (fun m => V.int (F2 m)) (h + i) = flV (fun m => V.int (Kw.put F2 (h + i) own2 m)) (h + i) := flV_congr fun j hj => by rw [Kw.put_ne (by omega)]
          rw [e1, ← Nat.add_assoc, ← flV_snoc]
          congr 2
          show V.int own2 = V.int (Kw.put F2 (h + i) own2 (h + i))
          rw [Kw.put_same]
      · rintro σ H' ⟨y5, y6, F, rfl, k3, hf, dn⟩
        rw [b2] at hf dn
        walk_at "sx"
        exact q H' fa F (Same.keepNew (s1.trans s2) k3 nfaH) nfaH hf dn
end
end Kt

namespace Kt
open PySem PySem.Spec PyProof.Rows L2
local macro_rules
  | `(tactic| walk_at "sx") => `(tactic| repeat (first
    | with_reducible refine q_seq ?_ | with_reducible refine q_par ?_ | with_reducible refine q_augS ?_ | with_reducible refine q_rev ?_ | with_reducible refine q_yes ?_ | with_reducible refine q_gname ?_ | with_reducible refine q_setG ?_ | with_reducible refine q_ip ?_ | with_reducible refine q_asg ?_ | with_reducible refine q_asgG ?_ | with_reducible refine q_ret ?_ | with_reducible refine q_drop ?_ | with_reducible refine q_if ?_ | with_reducible refine q_next ?_
    | with_reducible refine q_test ?_ | with_reducible refine q_tB ?_ | with_reducible refine q_chain ?_ | with_reducible refine q_andV ?_ | with_reducible refine q_bl ?_ | with_reducible refine q_exint ?_ | ((with_reducible show tAug _ _ _ _ _ _); refine q_aug rfl ?_) | with_reducible refine q_not ?_ | with_reducible refine q_and ?_ | with_reducible refine q_or ?_
    | with_reducible refine q_op ?_ | with_reducible refine q_un ?_ | with_reducible refine q_c ?_ | ((with_reducible show tVar _ _ _ _); refine q_var rfl ?_)
    | with_reducible refine q_i0 ?_ | with_reducible refine q_u ?_ | with_reducible refine q_eq ?_ | with_reducible refine q_ne ?_ | with_reducible refine q_isN ?_ | with_reducible refine q_notN ?_ | with_reducible refine q_min2 ?_ | with_reducible refine q_abs ?_ | with_reducible refine q_int ?_
    | with_reducible refine q_nil ?_ | with_reducible refine q_cons ?_ | with_reducible refine q_tup ?_ | with_reducible refine q_lst ?_ | with_reducible refine q_call ?_ | with_reducible refine q_makeN ?_ | with_reducible refine q_make ?_ | with_reducible refine q_cb ?_
    | ((with_reducible show ite _ _ _); first | refine ift rfl ?_ | refine iff' rfl ?_)))
-- slots: 0 table 1 middle 2 onward 3 row 4 begin 5 goal 6 rest
abbrev s_pass_over : Stmt := topS 12
theorem sc_pass_over : FnScope ["table", "middle", "onward", "row", "begin", "goal", "rest"] ["table", "middle"] (defScope s_pass_over) := ⟨rfl, rfl, rfl, by decide +kernel, rfl, by decide +kernel, by decide +kernel⟩
-- slots: 0 table 1 levels 2 node 3 row 4 other 5 most
abbrev s_in_table : Stmt := topS 19
theorem sc_in_table : FnScope ["table", "levels", "node", "row", "other", "most"] ["table", "levels"] (defScope s_in_table) := ⟨rfl, rfl, rfl, by decide +kernel, rfl, by decide +kernel, by decide +kernel⟩
section
variable {P : Program} {w : World} {K : PySem.W.Frag} {mg : Str → Option Value} {base : Heap}
/-- a table: a list of lists, each its own -/
structure TabAt (H : Hp) (tb : Addr) (rs : Nat → Addr) (T : Kw.Tb) (n : Nat) : Prop where
  top : H tb = some (.lst (flV (fun i => .ref (rs i)) n))
  row : ∀ i, i < n → H (rs i) = some (.lst (flV (fun j => oV (T i j)) n))
  inj : ∀ i j, i < n → j < n → rs i = rs j → i = j
  ne : ∀ i, i < n → rs i ≠ tb
def Wr (rs : Nat → Addr) (n : Nat) (b : Addr) : Prop := ∃ i, i < n ∧ b = rs i
theorem TabAt.keep {H H' : Hp} {tb : Addr} {rs : Nat → Addr} {T : Kw.Tb} {n : Nat} {W : Addr → Prop} (h : TabAt H tb rs T n) (k : Keep W H H') (n1 : ¬ W tb) (n2 : ∀ i, i < n → ¬ W (rs i)) : TabAt H' tb rs T n :=
  ⟨k _ _ n1 h.top, fun i hi => k _ _ (n2 i hi) (h.row i hi), h.inj, h.ne⟩
theorem TabAt.same {H H' : Hp} {tb : Addr} {rs : Nat → Addr} {T : Kw.Tb} {n : Nat} (h : TabAt H tb rs T n) (k : Same H H') : TabAt H' tb rs T n := ⟨k _ _ h.top, fun i hi => k _ _ (h.row i hi), h.inj, h.ne⟩
theorem TabAt.congr {H : Hp} {tb : Addr} {rs : Nat → Addr} {T T' : Kw.Tb} {n : Nat} (h : TabAt H tb rs T n) (e : ∀ i j, i < n → j < n → T i j = T' i j) : TabAt H tb rs T' n :=
  ⟨h.top, fun i hi => by
    rw [h.row i hi]
    congr 2
    exact flV_congr fun j hj => by rw [e i j hi hj], h.inj, h.ne⟩
/-- one row is written -/
theorem TabAt.put {H : Hp} {tb : Addr} {rs : Nat → Addr} {T : Kw.Tb} {n : Nat} (h : TabAt H tb rs T n) {i : Nat} (hi : i < n) (f : Nat → Option Int) : TabAt (upd H (rs i) (.lst (flV (fun j => oV (f j)) n))) tb rs (fun a b => if a = i then f b else T a b) n := by
  refine ⟨?_, fun a ha => ?_, h.inj, h.ne⟩
  · rw [upd_ne (h.ne i hi).symm]
    exact h.top
  · by_cases e : a = i
    · subst e
      rw [upd_same]
      congr 2
      exact flV_congr fun j _ => by rw [if_pos rfl]
    · rw [upd_ne (fun z => e (h.inj a i ha hi z)), h.row a ha]
      congr 2
      exact flV_congr fun j _ => by rw [if_neg e]
theorem _root_.L2.Same.mut' {H H' : Hp} {p : Addr} {o : HO} (e : L2.Same H H') (h : H p = none) : L2.Same H (upd H' p o) := Same.mut e h
def mix (f g : Nat → Option Int) (j : Nat) : Nat → Option Int := fun c => if c < j then g c else f c
theorem mix_set (f g : Nat → Option Int) (j n : Nat) : (flV (fun c => oV (mix f g j c)) n).set j (oV (g j)) = flV (fun c => oV (mix f g (j + 1) c)) n := by
  rw [flV_set]
  apply flV_congr
  intro c _
  unfold mix
  by_cases e : c = j
  · rw [e, Kw.put_same, if_pos (by omega)]
  · rw [Kw.put_ne e]
    by_cases q : c < j
    · rw [if_pos q, if_pos (by omega)]
    · rw [if_neg q, if_neg (by omega)]
theorem mix_skip {f g : Nat → Option Int} {j : Nat} (n : Nat) (h : g j = f j) : flV (fun c => oV (mix f g j c)) n = flV (fun c => oV (mix f g (j + 1) c)) n := by
  apply flV_congr
  intro c _
  unfold mix
  by_cases e : c = j
  · rw [e, if_neg (by omega), if_pos (by omega), h]
  · by_cases q : c < j
    · rw [if_pos q, if_pos (by omega)]
    · rw [if_neg q, if_neg (by omega)]
theorem mix_at (f g : Nat → Option Int) (j : Nat) : mix f g j j = f j := by
  unfold mix
  rw [if_neg (Nat.lt_irrefl _)]
def spPass (K : PySem.W.Frag) : Sp := fun vs H Q _ => ∃ (tb : Addr) (rs : Nat → Addr) (T : Kw.Tb) (n m : Nat), vs = [.ref tb, .int m] ∧ TabAt H tb rs T n ∧ m < n ∧ n ≤ 1000 ∧
  ∀ H', Keep (Wr rs n) H H' → TabAt H' tb rs (Kw.pass T m) n → Q .non H'
theorem ok_pass_over (D : Dk K mg "pass_over" s_pass_over) (fr : Fr mg) : Has P w K mg base CX0 1 "pass_over" ["table", "middle"] (spPass K) := by
  have sc := sc_pass_over
  refine D.has0 sc (fun vs H Q E h => ?_) (fun _ _ _ _ _ _ us hl => match us, hl with | [_, _], _ => rfl) (fun f cdv A outer s H vs Q E hr h => ?_)
  · obtain ⟨tb, rs, T, n, m, rfl, _⟩ := h
    rfl
  · obtain ⟨tb, rs, T, n, m, rfl, hT, hm, hn, q⟩ := h
    refine ⟨_, (pss_cons (ps_set (i := 2) sc.nd rfl (Or.inl rfl) (pe_callTy (T := "list") (c_list (K := K) rfl) (by rfl) fr.list (by decide +kernel) (pa_cons (pe_ixL (K := K) rfl (pv 0) (pv 1) (fun _ _ => rfl)) pa_nil)))
       (pss_one (ps_for PassesOwn.never rfl (pi_listK (K := K) rfl (pv 0)) (pg_name (i := 3) sc.nd rfl (Or.inl rfl))
        (pss_cons (ps_set (i := 4) sc.nd rfl (Or.inl rfl) (pe_ixL (K := K) rfl (pv 3) (pv 1) (fun _ _ => rfl)))
       (pss_one (ps_if (pt_cmpR o_notN (pv 4) pe_non (nomark _)) (pss_one (ps_for PassesOwn.never rfl (pi_enum (by rfl) fr.enumerate (pa_cons (pv 2) pa_nil)) (pg_tupK (K := K) (n := 2) rfl rfl (pgs_cons (pg_name (i := 5) sc.nd rfl (Or.inl rfl)) (pgs_cons (pg_name (i := 6) sc.nd rfl (Or.inl rfl)) pgs_nil)))
        (pss_one (ps_if (PW.pt (pw_and (pt_cmpR o_notN (pv 6) pe_non (nomark _)) (pw_and1 (PW.pt (pw_or (pt_cmpR o_isN (pe_ixL (K := K) rfl (pv 3) (pv 5) (fun _ _ => rfl)) pe_non (nomark _)) (pw_or1 (pt_cmpR op_lt (pe_op op_add (pv 4) (pv 6)) (pe_ixL (K := K) rfl (pv 3) (pv 5) (fun _ _ => rfl)) (nomark _)))))))) (pss_one (ps_asg (pe_op op_add (pv 4) (pv 6)) (pg_sub (pv 3) (pv 5) set_list))) pss_nil)))) pss_nil)))))), ?_⟩
    walk_at "sx"
    refine q_ixLn hT.top (flV_get hm) ?_
    walk_at "sx"
    refine ⟨rs m, _, rfl, .inl (.of (hT.row m hm)), fun o no => ?_⟩
    have s1 : Same H (upd H o (.lst (flV (fun j => oV (T m j)) n))) := same_upd no
    have ot : ∀ i, i < n → rs i ≠ o := fun i hi => ne_of_none (hT.row i hi) no
    have otb : tb ≠ o := ne_of_none hT.top no
    walk_at "sx"
    refine q_forL rfl ⟨tb, _, rfl, .of (s1 _ _ hT.top), fun i σ H' => ∃ y3 y4 y5 y6, σ = [some (.ref tb), some (.int m), some (.ref o), y3, y4, y5, y6] ∧ Keep (Wr rs n) (upd H o (.lst (flV (fun j => oV (T m j)) n))) H' ∧ TabAt H' tb rs (fun a b => if a < i then Kw.pass T m a b else T a b) n, ?_, ?_, ?_, ?_⟩
    · exact ⟨_, _, _, _, rfl, Keep.refl _ _, (hT.same s1).congr fun a b _ _ => by rw [if_neg (Nat.not_lt_zero _)]⟩
    · rintro i σ H' hi ⟨y3, y4, y5, y6, rfl, k1, t1⟩
      exact .of t1.top
    · rintro i x σ H' hx ⟨y3, y4, y5, y6, rfl, k1, t1⟩
      have hi : i < n := by
        have := (List.getElem?_eq_some_iff.mp hx).1
        rw [flV_len] at this
        exact this
      rw [flV_get hi] at hx
      cases hx
      have ho : H' o = some (.lst (flV (fun j => oV (T m j)) n)) := k1 o _ (fun ⟨j, hj, e⟩ => ot j hj e.symm) upd_same
      have hrow : H' (rs i) = some (.lst (flV (fun j => oV (T i j)) n)) := by
        rw [t1.row i hi]
        congr 2
        exact flV_congr fun j _ => by rw [if_neg (Nat.lt_irrefl _)]
      have nx : ∀ (σ2 : L2.St) (H2 : Hp), (∃ y3 y4 y5 y6, σ2 = [some (.ref tb), some (.int m), some (.ref o), y3, y4, y5, y6]) → Keep (Wr rs n) H' H2 → TabAt H2 tb rs (fun a b => if a = i then Kw.pass T m i b else if a < i then Kw.pass T m a b else T a b) n →
          ∃ y3 y4 y5 y6, σ2 = [some (.ref tb), some (.int m), some (.ref o), y3, y4, y5, y6] ∧ Keep (Wr rs n) (upd H o (.lst (flV (fun j => oV (T m j)) n))) H2 ∧ TabAt H2 tb rs (fun a b => if a < i + 1 then Kw.pass T m a b else T a b) n := by
        rintro σ2 H2 ⟨z3, z4, z5, z6, e⟩ k2 t2
        refine ⟨z3, z4, z5, z6, e, k1.trans k2, t2.congr fun a b _ _ => ?_⟩
        by_cases q1 : a = i
        · rw [if_pos q1, if_pos (by omega), q1]
        · rw [if_neg q1]
          by_cases q2 : a < i
          · rw [if_pos q2, if_pos (by omega)]
          · rw [if_neg q2, if_neg (by omega)]
      walk_at "sx"
      refine q_ixLn hrow (flV_get hm) ?_
      cases hb : T i m with
      | none =>
        walk_at "sx"
        refine nx _ _ ⟨_, _, _, _, rfl⟩ (Keep.refl _ _) (t1.congr fun a b _ _ => ?_)
        by_cases q1 : a = i
        · rw [if_pos q1, q1, if_neg (Nat.lt_irrefl _)]
          unfold Kw.pass
          rw [hb]
        · rw [if_neg q1]
      | some b =>
        have pe : ∀ j, Kw.pass T m i j = match T m j with
            | some r => Kw.imp (T i j) (b + r)
            | none => T i j := fun j => by
          unfold Kw.pass
          rw [hb]
          cases T m j <;> rfl
        walk_at "sx"
        refine q_forE rfl ⟨o, _, rfl, .of ho, fun j σ2 H2 => ∃ y5 y6, σ2 = [some (.ref tb), some (.int m), some (.ref o), some (.ref (rs i)), some (.int b), y5, y6] ∧ Keep (Wr rs n) H' H2 ∧ H2 (rs i) = some (.lst (flV (fun c => oV (mix (T i) (Kw.pass T m i) j c)) n)) ∧ (∀ c, c ≠ rs i → ∀ u, H' c = some u → H2 c = some u), ?_, ?_, ?_, ?_⟩
        · refine ⟨_, _, rfl, Keep.refl _ _, ?_, fun _ _ _ e => e⟩
          rw [hrow]
          congr 2
        · rintro j σ2 H2 hj ⟨y5, y6, rfl, k2, r2, o2⟩
          exact .of (o2 o (fun e => ot i hi e.symm) _ ho)
        · rintro j x σ2 H2 tt hx ⟨y5, y6, rfl, k2, r2, o2⟩ ntt
          have hj : j < n := by
            have := (List.getElem?_eq_some_iff.mp hx).1
            rw [flV_len] at this
            exact this
          obtain rfl : oV (T m j) = x := by
            rw [flV_get hj] at hx
            exact Option.some.inj hx
          have s2 : Same H2 (upd H2 tt (.tup [.int (j : Int), oV (T m j)])) := same_upd ntt
          have r3 := s2 _ _ r2
          have fin : ∀ (σ3 : L2.St), (∃ y5 y6, σ3 = [some (.ref tb), some (.int m), some (.ref o), some (.ref (rs i)), some (.int b), y5, y6]) → Kw.pass T m i j = T i j →
              ∃ y5 y6, σ3 = [some (.ref tb), some (.int m), some (.ref o), some (.ref (rs i)), some (.int b), y5, y6] ∧ Keep (Wr rs n) H' (upd H2 tt (.tup [.int (j : Int), oV (T m j)])) ∧ (upd H2 tt (.tup [.int (j : Int), oV (T m j)])) (rs i) = some (.lst (flV (fun c => oV (mix (T i) (Kw.pass T m i) (j + 1) c)) n)) ∧ (∀ c, c ≠ rs i → ∀ u, H' c = some u → (upd H2 tt (.tup [.int (j : Int), oV (T m j)])) c = some u) := by
            rintro σ3 ⟨z5, z6, e⟩ h
            refine ⟨z5, z6, e, k2.trans (Same.keep s2), ?_, fun c hc u e => s2 _ _ (o2 c hc u e)⟩
            rw [r3, mix_skip n h]
          cases hr2 : T m j with
          | none =>
            rw [hr2] at fin r3
            walk_at "sx"
            refine fin _ ⟨_, _, rfl⟩ ?_
            rw [pe, hr2]
          | some r =>
            rw [hr2] at fin r3 s2
            have ej : (flV (fun c => oV (mix (T i) (Kw.pass T m i) j c)) n)[j]? = some (oV (T i j)) := by
              rw [flV_get hj, mix_at]
            have set : Kw.pass T m i j = some (b + r) → ∀ (σ3 : L2.St), (∃ y5 y6, σ3 = [some (.ref tb), some (.int m), some (.ref o), some (.ref (rs i)), some (.int b), y5, y6]) →
                ∃ y5 y6, σ3 = [some (.ref tb), some (.int m), some (.ref o), some (.ref (rs i)), some (.int b), y5, y6] ∧ Keep (Wr rs n) H' (upd (upd H2 tt (.tup [.int (j : Int), oV (some r)])) (rs i) (.lst ((flV (fun c => oV (mix (T i) (Kw.pass T m i) j c)) n).set j (.int (b + r))))) ∧
                  (upd (upd H2 tt (.tup [.int (j : Int), oV (some r)])) (rs i) (.lst ((flV (fun c => oV (mix (T i) (Kw.pass T m i) j c)) n).set j (.int (b + r))))) (rs i) = some (.lst (flV (fun c => oV (mix (T i) (Kw.pass T m i) (j + 1) c)) n)) ∧
                  (∀ c, c ≠ rs i → ∀ u, H' c = some u → (upd (upd H2 tt (.tup [.int (j : Int), oV (some r)])) (rs i) (.lst ((flV (fun c => oV (mix (T i) (Kw.pass T m i) j c)) n).set j (.int (b + r))))) c = some u) := by
              rintro h σ3 ⟨z5, z6, e⟩
              refine ⟨z5, z6, e, (k2.trans (Same.keep s2)).upd ⟨i, hi, rfl⟩, ?_, fun c hc u e => ?_⟩
              · rw [upd_same, ← mix_set, h]
              · rw [upd_ne hc]
                exact s2 _ _ (o2 c hc u e)
            walk_at "sx"
            refine q_ixLn r3 ej ?_
            cases hc : T i j with
            | none =>
              have e1 : Kw.pass T m i j = some (b + r) := by
                rw [pe, hr2, hc]
                rfl
              walk_at "sx"
              refine q_set r3 (by rw [flV_len]; exact hj) ?_
              exact set e1 _ ⟨_, _, rfl⟩
            | some c =>
              walk_at "sx"
              refine q_ixLn r3 ej ?_
              rw [hc]
              walk_at "sx"
              refine ifd (fun lt => ?_) (fun ge => ?_)
              · have e1 : Kw.pass T m i j = some (b + r) := by
                  rw [pe, hr2, hc]
                  show (if b + r < c then some (b + r) else some c) = _
                  rw [if_pos lt]
                walk_at "sx"
                refine q_set r3 (by rw [flV_len]; exact hj) ?_
                exact set e1 _ ⟨_, _, rfl⟩
              · have e1 : Kw.pass T m i j = T i j := by
                  rw [pe, hr2, hc]
                  show (if b + r < c then some (b + r) else some c) = _
                  rw [if_neg ge]
                walk_at "sx"
                exact fin _ ⟨_, _, rfl⟩ e1
        · rintro σ2 H2 ⟨y5, y6, rfl, k2, r2, o2⟩
          rw [flV_len] at r2
          refine nx _ _ ⟨_, _, _, _, rfl⟩ k2 ⟨o2 tb (fun e => hT.ne i hi e.symm) _ t1.top, fun a ha => ?_, hT.inj, hT.ne⟩
          by_cases e : a = i
          · subst e
            rw [r2]
            congr 2
            exact flV_congr fun c hc => by
              unfold mix
              rw [if_pos hc, if_pos rfl]
          · rw [o2 _ (fun z => e (hT.inj a i ha hi z)) _ (t1.row a ha)]
            congr 2
            exact flV_congr fun c hc => by rw [if_neg e]
    · rintro σ H' ⟨y3, y4, y5, y6, rfl, k1, t1⟩
      rw [flV_len] at t1
      refine q H' (fun b u w e => k1 b u w (s1 _ _ e)) (t1.congr fun a b ha hb => by rw [if_pos ha])
end
end Kt

namespace Kt
open PySem PySem.Spec PyProof.Rows L2
local macro_rules
  | `(tactic| walk_at "sx") => `(tactic| repeat (first
    | with_reducible refine q_seq ?_ | with_reducible refine q_par ?_ | with_reducible refine q_augS ?_ | with_reducible refine q_rev ?_ | with_reducible refine q_yes ?_ | with_reducible refine q_gname ?_ | with_reducible refine q_setG ?_ | with_reducible refine q_ip ?_ | with_reducible refine q_asg ?_ | with_reducible refine q_asgG ?_ | with_reducible refine q_ret ?_ | with_reducible refine q_drop ?_ | with_reducible refine q_if ?_ | with_reducible refine q_next ?_
    | with_reducible refine q_test ?_ | with_reducible refine q_tB ?_ | with_reducible refine q_chain ?_ | with_reducible refine q_andV ?_ | with_reducible refine q_bl ?_ | with_reducible refine q_exint ?_ | ((with_reducible show tAug _ _ _ _ _ _); refine q_aug rfl ?_) | with_reducible refine q_not ?_ | with_reducible refine q_and ?_ | with_reducible refine q_or ?_
    | with_reducible refine q_op ?_ | with_reducible refine q_un ?_ | with_reducible refine q_c ?_ | ((with_reducible show tVar _ _ _ _); refine q_var rfl ?_)
    | with_reducible refine q_i0 ?_ | with_reducible refine q_u ?_ | with_reducible refine q_eq ?_ | with_reducible refine q_ne ?_ | with_reducible refine q_isN ?_ | with_reducible refine q_notN ?_ | with_reducible refine q_min2 ?_ | with_reducible refine q_abs ?_ | with_reducible refine q_int ?_
    | with_reducible refine q_nil ?_ | with_reducible refine q_cons ?_ | with_reducible refine q_tup ?_ | with_reducible refine q_lst ?_ | with_reducible refine q_call ?_ | with_reducible refine q_makeN ?_ | with_reducible refine q_make ?_ | with_reducible refine q_cb ?_
    | ((with_reducible show ite _ _ _); first | refine ift rfl ?_ | refine iff' rfl ?_)))
-- slots: 0 size 1 arcs 2 table 3 _ 4 node 5 start 6 end 7 length 8 middle
abbrev s_closure : Stmt := topS 13
theorem sc_closure : FnScope ["size", "arcs", "table", "_", "node", "start", "end", "length", "middle"] ["size", "arcs"] (defScope s_closure) := ⟨rfl, rfl, rfl, by decide +kernel, rfl, by decide +kernel, by decide +kernel⟩
section
variable {P : Program} {w : World} {K : PySem.W.Frag} {mg : Str → Option Value} {base : Heap}
def spClosure (K : PySem.W.Frag) : Sp := fun vs H Q _ => ∃ (n : Nat) (aa : Addr) (av : List V) (as : List Kw.Arc), vs = [.int n, .ref aa] ∧ n ≤ 1000 ∧ H aa = some (.lst av) ∧ ArcVs K H false av as ∧ (∀ a ∈ as, a.s < n ∧ a.e < n) ∧ (∃ x, Kw.Pot as x) ∧
  ∀ H' tb rs, Same H H' → H tb = none → (∀ i, i < n → H (rs i) = none) → TabAt H' tb rs (Kw.clo n as) n → Q (.ref tb) H'
theorem arc_any {K : PySem.W.Frag} {H : Hp} {v : V} {a : Kw.Arc} {b : Bool} (h : arcP K H b v a) : arcP K H false v a := by
  obtain ⟨p, x, h1, h2, _⟩ := h
  exact ⟨p, x, h1, h2, fun z => Bool.noConfusion z⟩
theorem ok_closure (D : Dk K mg "closure" s_closure) (fr : Fr mg) (h_pass_over : Has P w K mg base CX0 1 "pass_over" ["table", "middle"] (spPass K)) :
    Has P w K mg base CX0 2 "closure" ["size", "arcs"] (spClosure K) := by
  have sc := sc_closure
  refine D.has0 sc (fun vs H Q E h => ?_) (fun _ _ _ _ _ _ us hl => match us, hl with | [_, _], _ => rfl) (fun f cdv A outer s H vs Q E hr h => ?_)
  · obtain ⟨n, aa, av, as, rfl, _⟩ := h
    rfl
  · obtain ⟨n, aa, av, as, rfl, hn, hA, ha, lt, ⟨x, hx⟩, q⟩ := h
    refine ⟨_, (pss_cons (ps_setLc (i := 2) (own := [("_", 3)]) (g := gName 3) (tt := tYes) rfl sc.nd rfl rfl (sw_true rfl rfl rfl (by decide +kernel)) (pi_range1 (by rfl) fr.range (pa_cons (pv 0) pa_nil)) (blkOk_by (by kernel_rfl)) (fun _ _ _ _ _ => (pg_name (i := 3) sc.nd rfl (Or.inl rfl))) (fun _ _ _ _ _ => pts_nil) (fun _ _ _ _ _ => (pe_lc (own := [("_", 3)]) (g := gName 3) (tt := tYes) rfl sc.nd (pi_range1 (by rfl) fr.range (pa_cons (pv 0) pa_nil)) (blkOk_by (by kernel_rfl)) (fun _ _ _ _ _ => (pg_name (i := 3) sc.nd rfl (Or.inl rfl))) (fun _ _ _ _ _ => pts_nil) (fun _ _ _ _ _ => pe_non))))
       (pss_cons (ps_for PassesOwn.never rfl (pi_range1 (by rfl) fr.range (pa_cons (pv 0) pa_nil)) (pg_name (i := 4) sc.nd rfl (Or.inl rfl))
        (pss_one (ps_asg pe_int (pg_sub (pe_ixL (K := K) rfl (pv 2) (pv 4) (fun _ _ => rfl)) (pv 4) set_list))))
       (pss_cons (ps_for PassesOwn.never rfl (pi_listK (K := K) rfl (pv 1)) (pg_tupK (K := K) (n := 4) rfl rfl (pgs_cons (pg_name (i := 5) sc.nd rfl (Or.inl rfl)) (pgs_cons (pg_name (i := 6) sc.nd rfl (Or.inl rfl)) (pgs_cons (pg_name (i := 7) sc.nd rfl (Or.inl rfl)) (pgs_cons (pg_name (i := 3) sc.nd rfl (Or.inl rfl)) pgs_nil)))))
        (pss_one (ps_if (PW.pt (pw_or (pt_cmpR o_isN (pe_ixL (K := K) rfl (pe_ixL (K := K) rfl (pv 2) (pv 5) (fun _ _ => rfl)) (pv 6) (fun _ _ => rfl)) pe_non (nomark _)) (pw_or1 (pt_cmpR op_lt (pv 7) (pe_ixL (K := K) rfl (pe_ixL (K := K) rfl (pv 2) (pv 5) (fun _ _ => rfl)) (pv 6) (fun _ _ => rfl)) (nomark _))))) (pss_one (ps_asg (pv 7) (pg_sub (pe_ixL (K := K) rfl (pv 2) (pv 5) (fun _ _ => rfl)) (pv 6) set_list))) pss_nil)))
       (pss_cons (ps_for PassesOwn.never rfl (pi_range1 (by rfl) fr.range (pa_cons (pv 0) pa_nil)) (pg_name (i := 8) sc.nd rfl (Or.inl rfl))
        (pss_one (ps_expr (pe_has h_pass_over (hr.mono (by decide)) pass0 (pa_cons (pv 2) (pa_cons (pv 8) pa_nil))))))
       (pss_cons (ps_for PassesOwn.never rfl (pi_range1 (by rfl) fr.range (pa_cons (pv 0) pa_nil)) (pg_name (i := 4) sc.nd rfl (Or.inl rfl))
        (pss_one (ps_if (pt_cmpR op_lt (pe_ixL (K := K) rfl (pe_ixL (K := K) rfl (pv 2) (pv 4) (fun _ _ => rfl)) (pv 4) (fun _ _ => rfl)) pe_int (nomark _)) (pss_one (ps_ret pe_non)) pss_nil)))
       (pss_one (ps_ret (pv 2)))))))), ?_⟩
    walk_at "sx"
    refine q_lcR rfl ⟨n, rfl, line_le' hn, fun tb ntb => ⟨fun i H' => ∃ rs : Nat → Addr, Same H H' ∧ H' tb = some (.lst (flV (fun k => .ref (rs k)) i)) ∧ (∀ k, k < i → H (rs k) = none ∧ H' (rs k) = some (.lst (flV (fun _ => .non) n)) ∧ rs k ≠ tb) ∧ ∀ k l, k < i → l < i → rs k = rs l → k = l, ?_, ?_, ?_⟩⟩
    · exact ⟨fun _ => 0, same_upd ntb, upd_same, fun k hk => absurd hk (Nat.not_lt_zero _), fun k l hk => absurd hk (Nat.not_lt_zero _)⟩
    · rintro i H' hi ⟨rs, s1, t1, r1, j1⟩
      walk_at "sx"
      refine q_lcC rfl (line_le' hn) fun p np => ?_
      have s2 : Same H' (upd H' p (.lst (flV (fun _ => .non) n))) := same_upd np
      have ptb : p ≠ tb := (ne_of_none t1 np).symm
      refine ⟨_, s2 _ _ t1, by rw [flV_len]; exact line_of (by omega), Kw.put rs i p, (s1.trans s2).mut' ntb, ?_, fun k hk => ?_, fun k l hk hl e => ?_⟩
      · rw [upd_same, ← flV_snoc, Kw.put_same]
        congr 3
        exact flV_congr fun k hk => by rw [Kw.put_ne (by omega)]
      · by_cases e : k = i
        · subst e
          rw [Kw.put_same]
          exact ⟨s1.free np, by rw [upd_ne ptb, upd_same], ptb⟩
        · rw [Kw.put_ne e]
          obtain ⟨g1, g2, g3⟩ := r1 k (by omega)
          exact ⟨g1, by rw [upd_ne g3]; exact s2 _ _ g2, g3⟩
      · by_cases e1 : k = i
        · by_cases e2 : l = i
          · omega
          · rw [e1, Kw.put_same, Kw.put_ne e2] at e
            obtain ⟨_, g2, _⟩ := r1 l (by omega)
            exact absurd e.symm (ne_of_none g2 np)
        · by_cases e2 : l = i
          · rw [e2, Kw.put_same, Kw.put_ne e1] at e
            obtain ⟨_, g2, _⟩ := r1 k (by omega)
            exact absurd e (ne_of_none g2 np)
          · rw [Kw.put_ne e1, Kw.put_ne e2] at e
            exact j1 k l (by omega) (by omega) e
    · rintro H1 ⟨rs, s1, t1, r1, j1⟩
      have nW : ∀ b, Wr rs n b → H b = none := fun b ⟨i, hi, e⟩ => by rw [e]; exact (r1 i hi).1
      have T0 : TabAt H1 tb rs (fun _ _ => none) n := ⟨t1, fun i hi => (r1 i hi).2.1, j1, fun i hi => (r1 i hi).2.2⟩
      have stay : ∀ {H2 : Hp}, Keep (Wr rs n) H1 H2 → Same H H2 := fun k b o e => k b o (fun z => by rw [nW b z] at e; cases e) (s1 b o e)
      walk_at "sx"
      refine q_forR rfl ⟨n, rfl, line_le' hn, fun i σ H' => ∃ y4, σ = [some (.int n), some (.ref aa), some (.ref tb), none, y4, none, none, none, none] ∧ Keep (Wr rs n) H1 H' ∧ TabAt H' tb rs (fun a b => if a < i ∧ a = b then some 0 else none) n, ?_, ?_, ?_⟩
      · exact ⟨_, rfl, Keep.refl _ _, T0.congr fun a b _ _ => by rw [if_neg (fun z => Nat.not_lt_zero _ z.1)]⟩
      · rintro i σ H' hi ⟨y4, rfl, k2, t2⟩
        walk_at "sx"
        refine q_ixLn t2.top (flV_get hi) ?_
        walk_at "sx"
        refine q_set (t2.row i hi) (by rw [flV_len]; exact hi) ?_
        rw [flV_set]
        have e : flV (Kw.put (fun j => oV (if i < i ∧ i = j then some 0 else none)) i (.int 0)) n = flV (fun j => oV (if i = j then some 0 else none)) n := by
          apply flV_congr
          intro j _
          by_cases z : j = i
          · rw [z, Kw.put_same, if_pos rfl]
          · rw [Kw.put_ne z, if_neg (fun y => Nat.lt_irrefl _ y.1), if_neg (fun y => z y.symm)]
        rw [e]
        refine ⟨_, rfl, k2.upd ⟨i, hi, rfl⟩, (t2.put hi _).congr fun a b _ _ => ?_⟩
        by_cases z : a = i
        · subst z
          rw [if_pos rfl]
          by_cases y : a = b
          · rw [if_pos y, if_pos ⟨by omega, y⟩]
          · rw [if_neg y, if_neg (fun u => y u.2)]
        · rw [if_neg z]
          by_cases y : a < i ∧ a = b
          · rw [if_pos y, if_pos ⟨by omega, y.2⟩]
          · rw [if_neg y, if_neg (fun u => y ⟨by omega, u.2⟩)]
      · rintro σ H' ⟨y4, rfl, k2, t2⟩
        have t2' : TabAt H' tb rs Kw.init n := t2.congr fun a b ha _ => by
          unfold Kw.init
          by_cases y : a = b
          · rw [if_pos ⟨ha, y⟩, if_pos y]
          · rw [if_neg (fun u => y u.2), if_neg y]
        have aaW : ¬ Wr rs n aa := fun z => by
          rw [nW aa z] at hA
          cases hA
        walk_at "sx"
        refine q_forL rfl ⟨aa, av, rfl, .of (stay k2 _ _ hA), fun i σ H2 => ∃ y3 y4 y5 y6 y7, σ = [some (.int n), some (.ref aa), some (.ref tb), y3, y4, y5, y6, y7, none] ∧ Keep (Wr rs n) H1 H2 ∧ TabAt H2 tb rs ((as.take i).foldl Kw.addArc Kw.init) n, ?_, ?_, ?_, ?_⟩
        · exact ⟨_, _, _, _, _, rfl, k2, t2'⟩
        · rintro i σ H2 hi ⟨y3, y4, y5, y6, y7, rfl, k3, t3⟩
          exact .of (stay k3 _ _ hA)
        · rintro i v σ H2 hv ⟨y3, y4, y5, y6, y7, rfl, k3, t3⟩
          obtain ⟨a, ea, p, u, rfl, hp, _⟩ := paired_r ha hv
          obtain ⟨l1, l2⟩ := lt a (List.mem_of_getElem? ea)
          have step : (as.take (i + 1)).foldl Kw.addArc Kw.init = Kw.addArc ((as.take i).foldl Kw.addArc Kw.init) a := by
            rw [take_snoc ea, List.foldl_append]
            rfl
          obtain ⟨T, hT0⟩ : ∃ T, T = (as.take i).foldl Kw.addArc Kw.init := ⟨_, rfl⟩
          rw [← hT0] at t3 step
          have nx : ∀ (σ2 : L2.St) (H3 : Hp), (∃ y3 y4 y5 y6 y7, σ2 = [some (.int n), some (.ref aa), some (.ref tb), y3, y4, y5, y6, y7, none]) → Keep (Wr rs n) H1 H3 → TabAt H3 tb rs (Kw.addArc T a) n →
              ∃ y3 y4 y5 y6 y7, σ2 = [some (.int n), some (.ref aa), some (.ref tb), y3, y4, y5, y6, y7, none] ∧ Keep (Wr rs n) H1 H3 ∧ TabAt H3 tb rs ((as.take (i + 1)).foldl Kw.addArc Kw.init) n := by
            rintro σ2 H3 ⟨z3, z4, z5, z6, z7, e⟩ g1 g2
            rw [step]
            exact ⟨z3, z4, z5, z6, z7, e, g1, g2⟩
          refine q_g4 (Same.sqt (stay k3) hp) ?_
          have yes : Kw.addArc T a a.s a.e = some a.l → tAsg (tVar 7) (gSub (tOp (rIxL K) (tVar 2) (tVar 5)) (tVar 6) rSetL) { nx := fun σ H2 => ∃ y3 y4 y5 y6 y7, σ = [some (.int n), some (.ref aa), some (.ref tb), y3, y4, y5, y6, y7, none] ∧ Keep (Wr rs n) H1 H2 ∧ TabAt H2 tb rs ((as.take (i + 1)).foldl Kw.addArc Kw.init) n, rt := Q }
              [some (.int n), some (.ref aa), some (.ref tb), some u, y4, some (.int a.s), some (.int a.e), some (.int a.l), none] H2 := fun h => by
            walk_at "sx"
            refine q_ixLn t3.top (flV_get l1) ?_
            walk_at "sx"
            refine q_set (t3.row a.s l1) (by rw [flV_len]; exact l2) ?_
            rw [flV_set]
            have e : flV (Kw.put (fun j => oV (T a.s j)) a.e (.int a.l)) n = flV (fun j => oV (Kw.addArc T a a.s j)) n := by
              apply flV_congr
              intro j _
              by_cases z : j = a.e
              · rw [z, Kw.put_same, h]
              · rw [Kw.put_ne z]
                unfold Kw.addArc
                rw [if_neg (fun y => z y.2)]
            rw [e]
            refine nx _ _ ⟨_, _, _, _, _, rfl⟩ (k3.upd ⟨_, l1, rfl⟩) ((t3.put l1 _).congr fun b c _ _ => ?_)
            by_cases z : b = a.s
            · rw [if_pos z, z]
            · rw [if_neg z]
              unfold Kw.addArc
              rw [if_neg (fun y => z y.1)]
          walk_at "sx"
          refine q_ixLn t3.top (flV_get l1) ?_
          walk_at "sx"
          refine q_ixLn (t3.row a.s l1) (flV_get l2) ?_
          have ea2 : Kw.addArc T a a.s a.e = Kw.imp (T a.s a.e) a.l := by
            unfold Kw.addArc
            rw [if_pos ⟨rfl, rfl⟩]
          cases hT : T a.s a.e with
          | none =>
            rw [hT] at ea2
            with_reducible refine q_c ?_
            refine q_isN ?_
            refine q_bl ?_
            refine ift rfl ?_
            refine ift rfl ?_
            exact yes ea2
          | some c =>
            rw [hT] at ea2
            walk_at "sx"
            refine q_ixLn t3.top (flV_get l1) ?_
            walk_at "sx"
            refine q_ixLn (t3.row a.s l1) (flV_get l2) ?_
            rw [hT]
            walk_at "sx"
            refine ifd (fun h => ?_) (fun h => ?_)
            · refine yes ?_
              rw [ea2]
              show (if a.l < c then some a.l else some c) = _
              rw [if_pos h]
            · walk_at "sx"
              refine nx _ _ ⟨_, _, _, _, _, rfl⟩ k3 (t3.congr fun b d _ _ => ?_)
              unfold Kw.addArc
              by_cases z : b = a.s ∧ d = a.e
              · rw [if_pos z, z.1, z.2, hT]
                show _ = if a.l < c then some a.l else some c
                rw [if_neg h]
              · rw [if_neg z]
        · rintro σ H2 ⟨y3, y4, y5, y6, y7, rfl, k3, t3⟩
          rw [Paired.length ha, List.take_length] at t3
          walk_at "sx"
          refine q_forR rfl ⟨n, rfl, line_le' hn, fun i σ H3 => ∃ y8, σ = [some (.int n), some (.ref aa), some (.ref tb), y3, y4, y5, y6, y7, y8] ∧ Keep (Wr rs n) H1 H3 ∧ TabAt H3 tb rs (Kw.fw i (Kw.arcTab as)) n, ?_, ?_, ?_⟩
          · exact ⟨_, rfl, k3, t3⟩
          · rintro i σ H3 hi ⟨y8, rfl, k4, t4⟩
            walk_at "sx"
            refine ⟨tb, rs, _, n, i, rfl, t4, hi, hn, fun H4 k5 t5 => ?_⟩
            rw [← Kw.fw_succ] at t5
            exact ⟨_, rfl, k4.trans k5, t5⟩
          · rintro σ H3 ⟨y8, rfl, k4, t4⟩
            have cl := Kw.clo_ok (n := n) hx
            walk_at "sx"
            refine q_forR rfl ⟨n, rfl, line_le' hn, fun i σ H4 => ∃ y4, σ = [some (.int n), some (.ref aa), some (.ref tb), y3, y4, y5, y6, y7, y8] ∧ H4 = H3, ?_, ?_, ?_⟩
            · exact ⟨_, rfl, rfl⟩
            · rintro i σ H4 hi ⟨y4, rfl, rfl⟩
              walk_at "sx"
              refine q_ixLn t4.top (flV_get hi) ?_
              walk_at "sx"
              refine q_ixLn (t4.row i hi) (flV_get hi) ?_
              have dz : Kw.fw n (Kw.arcTab as) i i = some 0 := cl.diag i
              rw [dz]
              walk_at "sx"
              exact ⟨_, rfl, rfl⟩
            · rintro σ H4 ⟨y4, rfl, rfl⟩
              walk_at "sx"
              exact q H4 tb rs (stay k4) ntb (fun i hi => (r1 i hi).1) t4
end
end Kt

/-! enumerate over a tuple; what is walked is a list or a tuple. -/
namespace Kt
open PySem PySem.Spec PyProof.Rows L2
theorem new_enum1 {v : Value} {o : Obj} {Hb : Heap → Prop} (B : Begins v o Hb) :
    Meets (Builtin.«enumerate.__new__» ⟨[.type "enumerate", v], []⟩) (fun _ R s => Hb s.heap ∧
      R (.ok (.ret (.ref (s.heap.push o).objs.size))) { s with heap := (s.heap.push o).push { cls := .type "enumerate", data := .fields #[.none, .bool false, .ref s.heap.objs.size, rawInt 0, .none, .none] } }) := by
  refine .of_wp fun prog w A R s h => ?_
  obtain ⟨hp, g, d, tk, os⟩ := s
  obtain ⟨h1, h⟩ := h
  have sb := sub_enumerate
  have go : ∀ {A' : Around} {E : Value → Shared → Prop} {Q : Value → Shared → Prop}, Q (.ref hp.objs.size) ⟨hp.push o, g, d, tk, os⟩ → wpAny (model prog w) A' (pyIter v) Q E ⟨hp, g, d, tk, os⟩ :=
    fun q => B.iter prog w _ _ ⟨hp, g, d, tk, os⟩ _ h1 q
  wp_walk using go
  refine wpAny_stack_any fun st => wpAny_pure ?_
  split
  · rename_i c _ _ _ _ _
    cases (c == Value.type "enumerate") <;> (wp_walk using go; exact ⟨_, rfl, h⟩)
  · wp_walk using go
    exact ⟨_, rfl, h⟩
theorem call_enum1 {prog : Program} {w : World} {A : Around} {E : Value → Shared → Prop} {s : Shared} {v : Value} {o : Obj} {Hb : Heap → Prop} {Q : Value → Shared → Prop} (B : Begins v o Hb) (h1 : Hb s.heap)
    (h : ∀ h', IsEnum h' (s.heap.objs.size + 1) s.heap.objs.size 0 .none → h'.get? s.heap.objs.size = some o → h'.objs.size = s.heap.objs.size + 2 → (∀ b u, s.heap.get? b = some u → h'.get? b = some u) → Q (.ref (s.heap.objs.size + 1)) { s with heap := h' }) :
    wpAny (model prog w) A (call (.type "enumerate") [v]) Q E s := by
  have z : (s.heap.push o).objs.size = s.heap.objs.size + 1 := Heap.size_push ..
  have e : IsEnum ((s.heap.push o).push { cls := .type "enumerate", data := .fields #[.none, .bool false, .ref s.heap.objs.size, rawInt 0, .none, .none] }) (s.heap.objs.size + 1) s.heap.objs.size 0 .none := by
    have t := Heap.get?_push_size (s.heap.push o) (o := { cls := .type "enumerate", data := .fields #[.none, .bool false, .ref s.heap.objs.size, rawInt 0, .none, .none] }) rfl
    rw [z] at t
    exact t
  refine callType_new F.called_enumerate (by decide) (F.typeCall_enumerate_1 _) (F.newCall_enumerate_1 _) (fun obj => F.args_object_init_2 obj _) F.entry_enumerate_new (new_enum1 B) ⟨h1, ?_⟩
  show _ ∧ _
  rw [z]
  exact ⟨⟨_, e, rfl⟩, h _ e (Heap.get?_push_of_some _ (Heap.get?_push_size _ B.free)) (by rw [Heap.size_push, z]) fun b u x => Heap.get?_push_of_some _ (Heap.get?_push_of_some _ x)⟩
/-- the tuple at a, each item in a new pair -/
def IteT (K : PySem.W.Frag) (a : Addr) : It :=
  ⟨fun i H => ∃ (xs : List V) (x : V), SqT K H a xs ∧ xs[i]? = some x, fun i H v H' => ∃ T x, v = .ref T ∧ H T = none ∧ H' = upd H T (.tup [.int (i : Nat), x]) ∧ ∀ xs, SqT K H a xs → xs[i]? = some x, fun i H => ∃ xs : List V, SqT K H a xs ∧ xs.length = i⟩
theorem IsTup.tup {h : Heap} {a : Addr} {its : Array Value} (p : IsTup h a its) : h.IsTuple a its := by
  obtain ⟨o, ho, hc, n, hd⟩ := p
  exact ⟨o, ho, hc, n, hd⟩
theorem turnT {P : Program} {w : World} {K : PySem.W.Frag} {elts : List Expr} {kk : Nat} {tpos : Pos} (a e it : Addr) (nt : a ≠ it) (nt2 : e ≠ a) :
    Turn P w K (.Tuple elts kk tpos) (IteT K a) [e, it] e (fun i h => (∃ old, IsEnum h e it ((i : Nat) : Int) old) ∧ h.IsTupleIter it a i ∧ e ≠ it) where
  mem := List.mem_cons_self
  obj := fun i h ⟨⟨old, he⟩, ⟨o, ho, hc, hd⟩, _⟩ b hb => by
    rcases List.mem_cons.mp hb with rfl | hb
    · exact ⟨_, he, fun v q => nomatch q⟩
    · rw [List.mem_singleton.mp hb]
      exact ⟨o, ho, fun v q => by rw [hd] at q; cases q⟩
  keep := fun i h h' ⟨⟨old, he⟩, hi, hne⟩ k => ⟨⟨old, k e List.mem_cons_self _ he⟩, hi.at fun o q => k it (List.mem_cons_of_mem _ List.mem_cons_self) o q, hne⟩
  item := by
    intro X hP hw hK hc i pins s σ H E I hf st hg
    subst hP hw hK
    obtain ⟨⟨old, he⟩, hit, hne⟩ := st
    obtain ⟨xs, x, hq, hx⟩ := hg
    obtain ⟨its, rv, p, hz⟩ := I.tuple hq
    obtain ⟨u, hu, ru⟩ := rv.get hx
    have hh : X.A.in1.handled = none := I.ok.hd hc
    have Dr := Draws.tuple (prog := X.prog) (w := X.w) hh it a nt its.toArray
    have hel : e < s.heap.objs.size := Heap.lt_size he
    have hil : it < s.heap.objs.size := by
      obtain ⟨_, q, _⟩ := hit
      exact Heap.lt_size q
    have hlt : i < its.toArray.size := by
      have := (List.getElem?_eq_some_iff.mp hu).1
      rw [List.size_toArray]
      exact this
    refine wpAny_pyNext_enum_itemC Dr he ⟨hit, IsTup.tup p⟩ hlt hne (fun z => ?_) fun y h' tk hy ho st' hT hsz hk => ?_
    · rcases List.mem_cons.mp z with z | z
      · exact hne z
      · exact nt2 (List.mem_singleton.mp z)
    have ey : y = u := by
      have : its.toArray[i]? = some u := by simpa using hu
      rw [this] at hy
      exact (Option.some.inj hy).symm
    subst ey
    refine ⟨_, rfl, wpAny_letOwnedTupleGo_enum (s := { s with heap := h', toks := tk + 1 }) ho fun h'' he' sb => ?_⟩
    have hT2 : h''.get? s.heap.objs.size = some { cls := .type "tuple", data := .seq #[.int i tk, y] } := (sb.2 _ (Nat.ne_of_gt hel)).trans hT
    have new : ObjOk X.prog X.w (upd H s.heap.objs.size (.tup [.int (i : Nat), x])) h'' s.heap.objs.size (.tup [.int (i : Nat), x]) :=
      ⟨line_le (n := 2) (by decide), [.int i tk, y], .cons ⟨_, rfl⟩ (.cons ru .nil), ⟨_, hT2, rfl, _, rfl⟩⟩
    have nin : ∀ {b : Addr}, b ∉ [e, it] → b ≠ e ∧ b ≠ it := fun hb => ⟨fun z => hb (by rw [z]; exact List.mem_cons_self), fun z => hb (by rw [z]; exact List.mem_cons_of_mem _ List.mem_cons_self)⟩
    have I1 : Inv X pins σ (upd H s.heap.objs.size (.tup [.int (i : Nat), x])) { s with heap := h'', toks := tk + 1 } :=
      I.turnedNew (ch := [e, it]) (fun b ob hb q => (sb.2 b (nin hb).1).trans (hk b ob (nin hb).1 (nin hb).2 q)) hf (Nat.le_refl _) new
    refine ⟨.ref s.heap.objs.size, _, I1, rfl, ⟨_, x, rfl, I.hok.fresh (Nat.le_refl _), rfl, fun ys hy => by rw [I.tuple_inj hy hq]; exact hx⟩, ⟨⟨y, ?_⟩, st'.1.at fun o q => (sb.2 it (Ne.symm hne)).trans q, hne⟩, fun b hb => ?_⟩
    · have e1 : ((i + 1 : Nat) : Int) = (i : Int) + 1 := by omega
      rw [e1]
      exact he'
    · have hb' : b < s.heap.objs.size := by
        rcases List.mem_cons.mp hb with rfl | hb
        · exact hel
        · rw [List.mem_singleton.mp hb]
          exact hil
      rw [upd_ne (Nat.ne_of_lt hb')]
      exact (hf b hb).1
  done := by
    intro X hP hw hK hc i pins s σ H E I hf st hg
    subst hP hw hK
    obtain ⟨⟨old, he⟩, hit, hne⟩ := st
    obtain ⟨xs, hq, hx⟩ := hg
    obtain ⟨its, rv, p, hz⟩ := I.tuple hq
    obtain ⟨f0, f1, f2, f3, f4, f5⟩ := hf it (List.mem_cons_of_mem _ List.mem_cons_self)
    have hh : X.A.in1.handled = none := I.ok.hd hc
    have Dr := Draws.tuple (prog := X.prog) (w := X.w) hh it a nt its.toArray
    have ei : its.toArray.size = i := by
      rw [List.size_toArray, ← rv.length]
      exact hx
    refine wpAny_pyNext_enum_endD Dr he (by rw [ei]; exact ⟨hit, IsTup.tup p⟩) fun h' eb => ⟨rfl, I.turned (t' := s.toks) (fun b o hb q => eb b o hb q) f0 f1 f3 f4 f5⟩
  self := fun A i s Q E ⟨⟨_, he⟩, _⟩ h => wpAny_pyIter_enum he h
def iEnumT (K : PySem.W.Frag) (ta : TA) : TI := fun σ H R => ta σ H fun vs H1 => ∃ a xs, vs = [.ref a] ∧ SqT K H1 a xs ∧ R (IteT K a) H1
theorem pi_enumT {X : Cx} {K : PySem.W.Frag} {e : Expr} {ta : TA} {p pos tpos : Pos} {elts : List Expr} {kk : Nat} (hK : X.K = K) (hg : Gl X "enumerate") (hm : X.mg "enumerate" = none) (ha : PA X [e] ta) (hs : starEach [e] X.env = [(false, eval e X.env)] := by rfl) :
    PI X (.Tuple elts kk tpos) (.Call (.Name "enumerate" p) [e] [] pos) (iEnumT K ta) := by
  subst hK
  constructor
  intro pins s σ H R I h
  refine Call_ (ld_blt I hg hm boot_enumerate (PyProof.Rows.callWith_type1 (thn (ha.run pos pins s σ H _ I h) fun us s1 ⟨vs, H1, I1, r1, a, xs, ex, hq, q⟩ => ?_) hs rfl))
  subst ex
  cases r1 with
  | cons r rr =>
    cases rr
    cases r
    obtain ⟨its, rv, p', hz⟩ := I1.tuple hq
    have hal : a < s1.heap.objs.size := p'.lt
    refine call_enum1 (begins_tuple a its.toArray) (IsTup.tup p') fun h' he hit hsz hk => wpAny_pyIter_enum he ?_
    have I2 : Inv X pins σ H1 { s1 with heap := h' } := I1.kept (t' := s1.toks) hk
    refine ⟨s1.heap.objs.size + 1, [s1.heap.objs.size + 1, s1.heap.objs.size], _, _, H1, rfl, I2, turnT a (s1.heap.objs.size + 1) s1.heap.objs.size (Nat.ne_of_lt hal) (Nat.ne_of_gt (Nat.lt_succ_of_lt hal)), ⟨⟨.none, he⟩, ⟨_, hit, rfl, rfl⟩, Nat.succ_ne_self _⟩, fun b hb => ?_, q⟩
    have hle : s1.heap.objs.size ≤ b := by
      rcases List.mem_cons.mp hb with rfl | hb
      · exact Nat.le_add_right _ _
      · rw [List.mem_singleton.mp hb]
        exact Nat.le_refl _
    exact I1.fpOk hle (I1.hok.fresh hle)
theorem pi_enumK {X : Cx} {K : PySem.W.Frag} {e : Expr} {ta : TA} {p pos tpos : Pos} {elts : List Expr} {kk : Nat} (hK : X.K = K) (hg : Gl X "enumerate") (hm : X.mg "enumerate" = none) (ha : PA X [e] ta) (hs : starEach [e] X.env = [(false, eval e X.env)] := by rfl) :
    PI X (.Tuple elts kk tpos) (.Call (.Name "enumerate" p) [e] [] pos) (iEnum K ta) := by
  subst hK
  exact pi_enum hg hm ha hs
theorem c_all {X : Cx} {K : PySem.W.Frag} (hK : X.K = K) (hc : X.calm = true) : CallR X (.builtin "all") (rAll K) := by
  subst hK
  exact cr_all hc
/-- l.extend(m), both in the heap -/
theorem q_rext {H : Hp} {Q : VK} {l b : Addr} {xs zs : List V} (e : H l = some (.lst xs)) (g : H b = some (.lst zs)) (hz : xs.length + zs.length ≤ sizeLine) (q : Q .non (upd H l (.lst (xs ++ zs)))) : rExtend (.ref l) [.ref b] H Q := ⟨l, b, xs, zs, rfl, rfl, e, g, hz, q⟩
theorem q_extV {K : PySem.W.Frag} {σ : L2.St} {H : Hp} {Q : VK} {i : Nat} {l : Addr} {xs : List V} {tA : TA} (h : σ[i]? = some (some (.ref l))) (hl : H l = some (.lst xs)) (q : tA σ H fun vs H2 => rExtend (.ref l) vs H2 Q) : tBM K "list" rExtend (tVar i) tA σ H Q := ⟨.ref l, h, .inl ⟨rfl, xs, .of hl⟩, q⟩
theorem q_andV {σ : L2.St} {H : Hp} {Q : VK} {ta tb : TE} (q : ta σ H fun x H1 => ∃ c, x = .bl c ∧ if c = true then tb σ H1 Q else Q (.bl false) H1) : tAndV ta tb σ H Q := q
theorem q_chain {σ : L2.St} {H : Hp} {Q : VK} {r r' : R2} {ta tb tc : TE} (q : ta σ H fun x H1 => tb σ H1 fun y H2 => r x y H2 fun z H3 => ∃ k, z = .bl k ∧ (if k = true then tc σ H3 fun w' H4 => r' y w' H4 Q else Q (.bl false) H3)) : tChain r r' ta tb tc σ H Q := q
/-! ### rows as tuples -/
abbrev row4 (r : Kw.Row) : List V := [.int r.f, .int r.s, oV r.lo, oV r.hi]
abbrev row5 (r : Kw.Row) : List V := [.int r.f, .int r.s, oV r.lo, oV r.hi, oV r.rm]
def Tups (K : PySem.W.Frag) (H : Hp) (f : Kw.Row → List V) (R : Nat → Kw.Row) (n : Nat) (vs : List V) : Prop := vs.length = n ∧ ∀ i, i < n → ∃ p, vs[i]? = some (.ref p) ∧ SqT K H p (f (R i))
theorem Tups.same {K : PySem.W.Frag} {H H' : Hp} {f : Kw.Row → List V} {R : Nat → Kw.Row} {n : Nat} {vs : List V} (h : Tups K H f R n vs) (e : Same H H') : Tups K H' f R n vs := ⟨h.1, fun i hi => by
  obtain ⟨p, h1, h2⟩ := h.2 i hi
  exact ⟨p, h1, Same.sqt e h2⟩⟩
theorem Tups.get {K : PySem.W.Frag} {H : Hp} {f : Kw.Row → List V} {R : Nat → Kw.Row} {n : Nat} {vs : List V} (h : Tups K H f R n vs) {i : Nat} {v : V} (e : vs[i]? = some v) : i < n ∧ ∃ p, v = .ref p ∧ SqT K H p (f (R i)) := by
  have hi : i < n := by
    rw [← h.1]
    exact (List.getElem?_eq_some_iff.mp e).1
  obtain ⟨p, h1, h2⟩ := h.2 i hi
  rw [h1] at e
  exact ⟨hi, p, (Option.some.inj e).symm, h2⟩
theorem Tups.rows {K : PySem.W.Frag} {H : Hp} {R : Nat → Kw.Row} {n : Nat} {vs : List V} {a : Addr} (h : Tups K H row5 R n vs) (e : H a = some (.lst vs)) : RowsAt K H a R n := ⟨vs, e, h.1, h.2⟩
/-- one of two -/
def iOr (w1 w2 : TI) : TI := fun σ H R => w1 σ H R ∨ w2 σ H R
theorem pi_or {X : Cx} {tg l : Expr} {w1 w2 : TI} (h1 : PI X tg l w1) (h2 : PI X tg l w2) : PI X tg l (iOr w1 w2) := by
  constructor
  intro pins s σ H R I h
  rcases h with h | h
  · exact h1.run pins s σ H R I h
  · exact h2.run pins s σ H R I h
theorem walk_enumT {K : PySem.W.Frag} {a : Addr} {xs : List V} : L2.Walk (IteT K a) xs.length (fun H => SqT K H a xs) (YPair (fun i => some (.int (i : Nat))) (fun i => xs[i]?)) := by
  refine ⟨fun i H hi h => ⟨xs, xs[i], h, List.getElem?_eq_getElem hi⟩, fun H h => ⟨xs, h, rfl⟩, fun i H v H' hi h y => ?_⟩
  obtain ⟨T, x, e1, e2, e3, e4⟩ := y
  exact ⟨T, _, x, e1, e2, e3, rfl, e4 xs h⟩
section
variable {K : PySem.W.Frag} {σ : L2.St} {H : Hp} {D : Ends} {tb : TS} {g : TG}
/-- for i, x in enumerate(a tuple) -/
theorem q_forET {i a b : Nat} {v : V} (h : σ[i]? = some (some v)) (q : ∃ (p : Addr) (xs : List V), v = .ref p ∧ SqT K H p xs ∧ ∃ Pv : Nat → L2.St → Hp → Prop, Pv 0 σ H ∧ (∀ i σ' H', i ≤ xs.length → Pv i σ' H' → SqT K H' p xs) ∧
    (∀ (i : Nat) x σ' H' T, xs[i]? = some x → Pv i σ' H' → H' T = none → tb { D with nx := Pv (i + 1), ct := Pv (i + 1), bk := D.nx } ((σ'.set a (some (.int (i : Int)))).set b (some x)) (upd H' T (.tup [.int (i : Int), x]))) ∧ ∀ σ' H', Pv xs.length σ' H' → D.nx σ' H') :
    tFor (iEnumT K (tCons (tVar i) tNil)) (gTup K 2 (gCons (gName a) (gCons (gName b) gNil))) tb D σ H := by
  obtain ⟨p, xs, rfl, hx, Pv, h0, hl, hs, hd⟩ := q
  refine ⟨.ref p, h, p, xs, rfl, hx, for_it walk_enumT Pv h0 hl (fun i x σ' H' H2 hi pv y => ?_) hd⟩
  obtain ⟨T, u, w, rfl, hT, rfl, e1, e2⟩ := y
  cases e1
  exact ⟨T, [.int (i : Int), w], rfl, SqT.of upd_same, rfl, .int (i : Int), [w], rfl, w, [], rfl, rfl, hs i w σ' H' T e2 pv hT⟩
theorem q_or_l {w1 w2 : TI} (q : tFor w1 g tb D σ H) : tFor (iOr w1 w2) g tb D σ H := .inl q
theorem q_or_r {w1 w2 : TI} (q : tFor w2 g tb D σ H) : tFor (iOr w1 w2) g tb D σ H := .inr q
theorem q_lc_l {w1 w2 : TI} {tt : TT} {te : TE} {ws : List Nat} {Q : VK} (q : tLc w1 g tt te ws σ H Q) : tLc (iOr w1 w2) g tt te ws σ H Q := .inl q
theorem q_lc_r {w1 w2 : TI} {tt : TT} {te : TE} {ws : List Nat} {Q : VK} (q : tLc w2 g tt te ws σ H Q) : tLc (iOr w1 w2) g tt te ws σ H Q := .inr q
end
end Kt

namespace Kt
open PySem PySem.Spec PyProof.Rows L2
local macro_rules
  | `(tactic| walk_at "sx") => `(tactic| repeat (first
    | with_reducible refine q_seq ?_ | with_reducible refine q_par ?_ | with_reducible refine q_augS ?_ | with_reducible refine q_rev ?_ | with_reducible refine q_yes ?_ | with_reducible refine q_gname ?_ | with_reducible refine q_setG ?_ | with_reducible refine q_ip ?_ | with_reducible refine q_asg ?_ | with_reducible refine q_asgG ?_ | with_reducible refine q_ret ?_ | with_reducible refine q_drop ?_ | with_reducible refine q_if ?_ | with_reducible refine q_next ?_
    | with_reducible refine q_test ?_ | with_reducible refine q_tB ?_ | with_reducible refine q_bl ?_ | with_reducible refine q_exint ?_ | ((with_reducible show tAug _ _ _ _ _ _); refine q_aug rfl ?_) | with_reducible refine q_not ?_ | with_reducible refine q_and ?_ | with_reducible refine q_or ?_
    | with_reducible refine q_op ?_ | with_reducible refine q_un ?_ | with_reducible refine q_c ?_ | ((with_reducible show tVar _ _ _ _); refine q_var rfl ?_)
    | with_reducible refine q_i0 ?_ | with_reducible refine q_u ?_ | with_reducible refine q_eq ?_ | with_reducible refine q_ne ?_ | with_reducible refine q_isN ?_ | with_reducible refine q_notN ?_ | with_reducible refine q_min2 ?_ | with_reducible refine q_abs ?_ | with_reducible refine q_int ?_
    | with_reducible refine q_nil ?_ | with_reducible refine q_cons ?_ | with_reducible refine q_tup ?_ | with_reducible refine q_lst ?_ | with_reducible refine q_call ?_ | with_reducible refine q_cb ?_
    | ((with_reducible show ite _ _ _); first | refine ift rfl ?_ | refine iff' rfl ?_)))
-- slots: 0 bounds 1 source 2 index 3 first 4 second 5 low 6 high 7 found
abbrev s_bound_arcs : Stmt := topS 9
theorem sc_bound_arcs : FnScope ["bounds", "source", "index", "first", "second", "low", "high", "found"] ["bounds", "source", "index"] (defScope s_bound_arcs) := ⟨rfl, rfl, rfl, by decide +kernel, rfl, by decide +kernel, by decide +kernel⟩
-- slots: 0 rows 1 row
abbrev s_as_tuples : Stmt := topS 17
theorem sc_as_tuples : FnScope ["rows", "row"] ["rows"] (defScope s_as_tuples) := ⟨rfl, rfl, rfl, by decide +kernel, rfl, by decide +kernel, by decide +kernel⟩
-- slots: 0 size 1 rule 2 first 3 second 4 low 5 high
abbrev s_rule_stands : Stmt := topS 40
theorem sc_rule_stands : FnScope ["size", "rule", "first", "second", "low", "high"] ["size", "rule"] (defScope s_rule_stands) := ⟨rfl, rfl, rfl, by decide +kernel, rfl, by decide +kernel, by decide +kernel⟩
-- slots: 0 rules 1 first 2 second 3 low 4 high
abbrev s_rule_rows : Stmt := topS 21
theorem sc_rule_rows : FnScope ["rules", "first", "second", "low", "high"] ["rules"] (defScope s_rule_rows) := ⟨rfl, rfl, rfl, by decide +kernel, rfl, by decide +kernel, by decide +kernel⟩
section
variable {P : Program} {w : World} {K : PySem.W.Frag} {mg : Str → Option Value} {base : Heap}
def spInTab (K : PySem.W.Frag) : Sp := fun vs H Q _ => ∃ (tb la : Addr) (rs : Nat → Addr) (T : Nat → Nat → Int) (n : Nat) (L : Nat → Int), vs = [.ref tb, .ref la] ∧ TabAt H tb rs (fun i j => some (T i j)) n ∧ 0 < n ∧ n ≤ 1000 ∧ SqL K H la (flV (fun i => .int (L i)) n) ∧
  ∀ H' b, Same H H' → (b = true ↔ (L 0 = 0 ∧ ∀ i j, i < n → j < n → L j - L i ≤ T i j)) → Q (.bl b) H'
theorem Same.sql {K : PySem.W.Frag} {H H' : Hp} {a : Addr} {xs : List V} (e : Same H H') (h : SqL K H a xs) : SqL K H' a xs := Keep.sql (W := fun _ => False) (fun b o _ x => e b o x) (fun z => z) h
theorem ok_in_table (D : Dk K mg "in_table" s_in_table) (fr : Fr mg) : Has P w K mg base CX0 1 "in_table" ["table", "levels"] (spInTab K) := by
  have sc := sc_in_table
  refine D.has0 sc (fun vs H Q E h => ?_) (fun _ _ _ _ _ _ us hl => match us, hl with | [_, _], _ => rfl) (fun f cdv A outer s H vs Q E hr h => ?_)
  · obtain ⟨tb, la, rs, T, n, L, rfl, _⟩ := h
    rfl
  · obtain ⟨tb, la, rs, T, n, L, rfl, hT, h0, hn, hL, q⟩ := h
    refine ⟨_, (pss_cons (ps_if (pt_cmpR op_ne (pe_ixL (K := K) rfl (pv 1) pe_int (fun _ _ => rfl)) pe_int (nomark _)) (pss_one (ps_ret pe_bl)) pss_nil)
       (pss_cons (ps_for PassesOwn.never rfl (pi_enum (by rfl) fr.enumerate (pa_cons (pv 0) pa_nil)) (pg_tupK (K := K) (n := 2) rfl rfl (pgs_cons (pg_name (i := 2) sc.nd rfl (Or.inl rfl)) (pgs_cons (pg_name (i := 3) sc.nd rfl (Or.inl rfl)) pgs_nil)))
        (pss_one (ps_for PassesOwn.never rfl (pi_enum (by rfl) fr.enumerate (pa_cons (pv 3) pa_nil)) (pg_tupK (K := K) (n := 2) rfl rfl (pgs_cons (pg_name (i := 4) sc.nd rfl (Or.inl rfl)) (pgs_cons (pg_name (i := 5) sc.nd rfl (Or.inl rfl)) pgs_nil)))
        (pss_one (ps_if (pt_cmpR op_gt (pe_op op_sub (pe_ixL (K := K) rfl (pv 1) (pv 4) (fun _ _ => rfl)) (pe_ixL (K := K) rfl (pv 1) (pv 2) (fun _ _ => rfl))) (pv 5) (nomark _)) (pss_one (ps_ret pe_bl)) pss_nil)))))
       (pss_one (ps_ret pe_bl)))), ?_⟩
    walk_at "sx"
    refine q_ixL hL (atI_nat (j := 0) (flV_get h0)) ?_
    walk_at "sx"
    refine ifn (fun e => ?_) (fun e => ?_)
    · walk_at "sx"
      exact q _ _ (fun _ _ e => e) ⟨fun z => Bool.noConfusion z, fun z => absurd z.1 e⟩
    · walk_at "sx"
      refine q_forE rfl ⟨tb, _, rfl, .of hT.top, fun i σ H' => ∃ y2 y3 y4 y5, σ = [some (.ref tb), some (.ref la), y2, y3, y4, y5] ∧ Same H H' ∧ ∀ a b, a < i → b < n → L b - L a ≤ T a b, ?_, ?_, ?_, ?_⟩
      · exact ⟨_, _, _, _, rfl, (fun _ _ e => e), fun a b z => absurd z (Nat.not_lt_zero _)⟩
      · rintro i σ H' hi ⟨y2, y3, y4, y5, rfl, s1, g⟩
        exact .of (s1 _ _ hT.top)
      · rintro i x σ H' t hx ⟨y2, y3, y4, y5, rfl, s1, g⟩ nt
        have hi : i < n := by
          have := (List.getElem?_eq_some_iff.mp hx).1
          rw [flV_len] at this
          exact this
        rw [flV_get hi] at hx
        cases hx
        have s2 : Same H (upd H' t (.tup [.int (i : Int), .ref (rs i)])) := s1.trans (same_upd nt)
        walk_at "sx"
        refine q_forE rfl ⟨rs i, _, rfl, .of (s2 _ _ (hT.row i hi)), fun j σ H3 => ∃ y4 y5, σ = [some (.ref tb), some (.ref la), some (.int i), some (.ref (rs i)), y4, y5] ∧ Same H H3 ∧ ∀ b, b < j → L b - L i ≤ T i b, ?_, ?_, ?_, ?_⟩
        · exact ⟨_, _, rfl, s2, fun b z => absurd z (Nat.not_lt_zero _)⟩
        · rintro j σ H3 hj ⟨y4, y5, rfl, s3, g3⟩
          exact .of (s3 _ _ (hT.row i hi))
        · rintro j x σ H3 t2 hx ⟨y4, y5, rfl, s3, g3⟩ nt2
          have hj : j < n := by
            have := (List.getElem?_eq_some_iff.mp hx).1
            rw [flV_len] at this
            exact this
          rw [flV_get hj] at hx
          obtain rfl : V.int (T i j) = x := Option.some.inj hx
          have s4 : Same H (upd H3 t2 (.tup [.int (j : Int), .int (T i j)])) := s3.trans (same_upd nt2)
          walk_at "sx"
          refine q_ixL (Same.sql s4 hL) (atI_nat (flV_get hj)) ?_
          walk_at "sx"
          refine q_ixL (Same.sql s4 hL) (atI_nat (flV_get hi)) ?_
          walk_at "sx"
          refine ifd (fun z => ?_) (fun z => ?_)
          · walk_at "sx"
            refine q _ _ s4 ⟨fun z => Bool.noConfusion z, fun k => ?_⟩
            have := k.2 i j hi hj
            omega
          · walk_at "sx"
            refine ⟨_, _, rfl, s4, fun b hb => ?_⟩
            by_cases y : b = j
            · subst y
              omega
            · exact g3 b (by omega)
        · rintro σ H3 ⟨y4, y5, rfl, s3, g3⟩
          rw [flV_len] at g3
          walk_at "sx"
          refine ⟨_, _, _, _, rfl, s3, fun a b ha hb => ?_⟩
          by_cases y : a = i
          · subst y
            exact g3 b hb
          · exact g a b (by omega) hb
      · rintro σ H' ⟨y2, y3, y4, y5, rfl, s1, g⟩
        rw [flV_len] at g
        walk_at "sx"
        exact q _ _ s1 ⟨fun _ => ⟨e, fun i j hi hj => g i j hi hj⟩, fun _ => rfl⟩
def ruArcs (r : Kw.Row) : List Kw.Arc := [⟨r.f, r.s, r.hi.getD 0, 0, 0⟩, ⟨r.s, r.f, -(r.lo.getD 0), 0, 0⟩]
def spBound (K : PySem.W.Frag) : Sp := fun vs H Q _ => ∃ (p : Addr) (v : V) (i : Int) (r : Kw.Row) (a b : Int), vs = [.ref p, v, .int i] ∧ SqT K H p (row4 r) ∧ r.lo = some a ∧ r.hi = some b ∧
  ∀ H' o as, Same H H' → H o = none → H' o = some (.lst as) → ArcVs K H' false as (ruArcs r) → Q (.ref o) H'
theorem ok_bound_arcs (D : Dk K mg "bound_arcs" s_bound_arcs) (fr : Fr mg) : Has P w K mg base CX0 1 "bound_arcs" ["bounds", "source", "index"] (spBound K) := by
  have sc := sc_bound_arcs
  refine D.has0 sc (fun vs H Q E h => ?_) (fun _ _ _ _ _ _ us hl => match us, hl with | [_, _, _], _ => rfl) (fun f cdv A outer s H vs Q E hr h => ?_)
  · obtain ⟨p, v, i, r, a, b, rfl, _⟩ := h
    rfl
  · obtain ⟨p, v, i, r, a, b, rfl, hp, ha, hb, q⟩ := h
    obtain ⟨f0, s0, lo, hi, rm⟩ := r
    subst ha hb
    refine ⟨_, (pss_cons (ps_asg (pv 0) (pg_tupK (K := K) (n := 4) rfl rfl (pgs_cons (pg_name (i := 3) sc.nd rfl (Or.inl rfl)) (pgs_cons (pg_name (i := 4) sc.nd rfl (Or.inl rfl)) (pgs_cons (pg_name (i := 5) sc.nd rfl (Or.inl rfl)) (pgs_cons (pg_name (i := 6) sc.nd rfl (Or.inl rfl)) pgs_nil))))))
       (pss_cons (ps_set (i := 7) sc.nd rfl (Or.inl rfl) (pe_lst pa_nil))
       (pss_mid (ps_if (pt_cmpR o_notN (pv 6) pe_non (nomark _)) (pss_one (ps_expr (bmK (K := K) (pe_bm PySem.F.plainAttrs_list PySem.F.slot_list_append PySem.F.type_list_append mt_append (pv 7) (pa_cons (pe_tup (pa_cons (pv 3) (pa_cons (pv 4) (pa_cons (pv 6) (pa_cons (pe_tup (pa_cons (pv 1) (pa_cons (pv 2) (pa_cons pe_str pa_nil)))) pa_nil))))) pa_nil)) rfl))) pss_nil)
       (pss_mid (ps_if (pt_cmpR o_notN (pv 5) pe_non (nomark _)) (pss_one (ps_expr (bmK (K := K) (pe_bm PySem.F.plainAttrs_list PySem.F.slot_list_append PySem.F.type_list_append mt_append (pv 7) (pa_cons (pe_tup (pa_cons (pv 4) (pa_cons (pv 3) (pa_cons (pe_un un_neg (pv 5)) (pa_cons (pe_tup (pa_cons (pv 1) (pa_cons (pv 2) (pa_cons pe_str pa_nil)))) pa_nil))))) pa_nil)) rfl))) pss_nil)
       (pss_one (ps_ret (pv 7))))))), ?_⟩
    walk_at "sx"
    refine q_g4 hp ?_
    walk_at "sx"
    refine ⟨line_le (n := 0) (by decide), fun o no => ?_⟩
    have s1 : Same H (upd H o (.lst [])) := same_upd no
    walk_at "sx"
    refine ⟨fun σ H' => ∃ u, σ = [some (.ref p), some v, some (.int i), some (.int f0), some (.int s0), some (.int a), some (.int b), some (.ref o)] ∧ Same H H' ∧ H' o = some (.lst [u]) ∧ arcP K H' false u ⟨f0, s0, b, 0, 0⟩, ?_, ?_⟩
    · walk_at "sx"
      refine q_appV rfl upd_same ?_
      walk_at "sx"
      refine ⟨line_le (n := 3) (by decide), fun p1 np1 => ?_⟩
      walk_at "sx"
      refine ⟨line_le (n := 4) (by decide), fun p2 np2 => ?_⟩
      have s2 : Same (upd H o (.lst [])) (upd (upd H o (.lst [])) p1 (.tup [v, .int i, .str "up"])) := same_upd np1
      have s3 := s2.trans (same_upd (o := .tup [.int f0, .int s0, .int b, .ref p1]) np2)
      have no2 : p2 ≠ o := (ne_of_none (s2 _ _ upd_same) np2).symm
      walk_at "sx"
      refine q_rapp (s3 _ _ upd_same) (line_of (n := 0) (by decide)) ?_
      walk_at "sx"
      refine ⟨_, rfl, (s1.trans s3).mut' no, upd_same, p2, .ref p1, rfl, SqT.of ?_, (fun z => Bool.noConfusion z)⟩
      rw [upd_ne no2, upd_same]
    · rintro σ H' ⟨u, rfl, s4, h4, r4⟩
      walk_at "sx"
      refine ⟨fun σ H2 => ∃ u2, σ = [some (.ref p), some v, some (.int i), some (.int f0), some (.int s0), some (.int a), some (.int b), some (.ref o)] ∧ Same H H2 ∧ H2 o = some (.lst [u, u2]) ∧ arcP K H2 false u ⟨f0, s0, b, 0, 0⟩ ∧ arcP K H2 false u2 ⟨s0, f0, -a, 0, 0⟩, ?_, ?_⟩
      · walk_at "sx"
        refine q_appV rfl h4 ?_
        walk_at "sx"
        refine ⟨line_le (n := 3) (by decide), fun p1 np1 => ?_⟩
        walk_at "sx"
        refine ⟨line_le (n := 4) (by decide), fun p2 np2 => ?_⟩
        have s2 : Same H' (upd H' p1 (.tup [v, .int i, .str "down"])) := same_upd np1
        have s3 := s2.trans (same_upd (o := .tup [.int s0, .int f0, .int (-a), .ref p1]) np2)
        have no2 : p2 ≠ o := (ne_of_none (s2 _ _ h4) np2).symm
        walk_at "sx"
        refine q_rapp (s3 _ _ h4) (line_of (n := 1) (by decide)) ?_
        walk_at "sx"
        refine ⟨_, rfl, (s4.trans s3).mut' no, upd_same, ?_, p2, .ref p1, rfl, SqT.of ?_, (fun z => Bool.noConfusion z)⟩
        · obtain ⟨p3, x3, e3, t3, _⟩ := r4
          refine ⟨p3, x3, e3, ?_, fun z => Bool.noConfusion z⟩
          refine Keep.sqt (W := (· = o)) (H := upd (upd H' p1 (.tup [v, .int i, .str "down"])) p2 (.tup [.int s0, .int f0, .int (-a), .ref p1])) (Keep.upd (Keep.refl _ _) rfl) (fun b e => by rw [e]; exact ⟨_, s3 _ _ h4⟩) (Same.sqt s3 t3)
        · rw [upd_ne no2, upd_same]
      · rintro σ H2 ⟨u2, rfl, s5, h5, r5, r6⟩
        walk_at "sx"
        exact q H2 o _ s5 no h5 (.cons r5 (.cons r6 .nil))
def spTups (K : PySem.W.Frag) : Sp := fun vs H Q _ => ∃ (a : Addr) (xs : List V) (R : Nat → Kw.Row) (n : Nat), vs = [.ref a] ∧ SqL K H a xs ∧ Tups K H row4 R n xs ∧ n ≤ 1000 ∧ ∀ H' o, Same H H' → H o = none → H' o = some (.tup xs) → Q (.ref o) H'
theorem ok_as_tuples (D : Dk K mg "as_tuples" s_as_tuples) (fr : Fr mg) : Has P w K mg base CX0 1 "as_tuples" ["rows"] (spTups K) := by
  have sc := sc_as_tuples
  refine D.has0 sc (fun vs H Q E h => ?_) (fun _ _ _ _ _ _ us hl => match us, hl with | [_], _ => rfl) (fun f cdv A outer s H vs Q E hr h => ?_)
  · obtain ⟨a, xs, R, n, rfl, _⟩ := h
    rfl
  · obtain ⟨a, xs, R, n, rfl, ha, ht, hn, q⟩ := h
    refine ⟨_, (pss_one (ps_ret (pe_callTy (T := "tuple") (c_tuple (K := K) rfl) (by rfl) fr.tuple (by decide +kernel) (pa_cons (pe_lc (own := [("row", 1)]) (g := gName 1) (tt := tYes) rfl sc.nd (pi_listK (K := K) rfl (pv 0)) (blkOk_by (by kernel_rfl)) (fun _ _ _ _ _ => (pg_name (i := 1) sc.nd rfl (Or.inl rfl))) (fun _ _ _ _ _ => pts_nil) (fun _ _ _ _ _ => (pe_callTy (T := "tuple") (c_tuple (K := K) rfl) (by rfl) fr.tuple (by decide +kernel) (pa_cons (pv 1) pa_nil)))) pa_nil)))), ?_⟩
    walk_at "sx"
    refine q_lcL rfl ha fun o no => ⟨fun i H' => H' = upd H o (.lst (xs.take i)), by rfl, ?_, ?_, ?_⟩
    · rintro i H' hi rfl
      exact Same.sql (same_upd no) ha
    · rintro i x H' hx rfl
      obtain ⟨hi, p, rfl, hp⟩ := ht.get hx
      refine q_gname ?_
      refine ⟨wipe1, ?_⟩
      walk_at "sx"
      refine ⟨p, _, rfl, .inr ⟨Same.sqt (same_upd no) hp, ?_⟩⟩
      refine ⟨_, upd_same, line_of (by rw [List.length_take]; omega), ?_⟩
      rw [upd_upd, ← take_snoc hx]
    · rintro H' rfl
      rw [List.take_length]
      walk_at "sx"
      refine ⟨o, _, rfl, .inl ⟨.of upd_same, fun t nt => ?_⟩⟩
      walk_at "sx"
      exact q _ t ((same_upd no).trans (same_upd nt)) ((same_upd no).free nt) upd_same
def Stands (n : Nat) (r : Kw.Row) : Prop := r.f < n ∧ r.s < n ∧ r.f ≠ r.s ∧ ∃ a b, r.lo = some a ∧ r.hi = some b ∧ a ≤ b
def spStands (K : PySem.W.Frag) : Sp := fun vs H Q _ => ∃ (n : Nat) (p : Addr) (r : Kw.Row), vs = [.int n, .ref p] ∧ SqT K H p (row4 r) ∧ Stands n r ∧ Q (.bl true) H
theorem ok_rule_stands (D : Dk K mg "rule_stands" s_rule_stands) : Has P w K mg base CX0 1 "rule_stands" ["size", "rule"] (spStands K) := by
  have sc := sc_rule_stands
  refine D.has0 sc (fun vs H Q E h => ?_) (fun _ _ _ _ _ _ us hl => match us, hl with | [_, _], _ => rfl) (fun f cdv A outer s H vs Q E hr h => ?_)
  · obtain ⟨n, p, r, rfl, _⟩ := h
    rfl
  · obtain ⟨n, p, r, rfl, hp, ⟨h1, h2, h3, a, b, ea, eb, le⟩, q⟩ := h
    obtain ⟨f0, s0, lo, hi, rm⟩ := r
    subst ea eb
    refine ⟨_, (pss_cons (ps_asg (pv 1) (pg_tupK (K := K) (n := 4) rfl rfl (pgs_cons (pg_name (i := 2) sc.nd rfl (Or.inl rfl)) (pgs_cons (pg_name (i := 3) sc.nd rfl (Or.inl rfl)) (pgs_cons (pg_name (i := 4) sc.nd rfl (Or.inl rfl)) (pgs_cons (pg_name (i := 5) sc.nd rfl (Or.inl rfl)) pgs_nil))))))
       (pss_one (ps_ret (pe_and (pe_chain op_le op_lt pe_int (pv 2) (pv 0)) (pe_and (pe_chain op_le op_lt pe_int (pv 3) (pv 0)) (pe_and (pe_cmpR op_ne (pv 2) (pv 3) (nomark _)) (pe_one (pe_cmpR op_le (pv 4) (pv 5) (nomark _))))))))), ?_⟩
    walk_at "sx"
    refine q_g4 hp ?_
    have h1' : f0 < n := h1
    have h2' : s0 < n := h2
    have h3' : f0 ≠ s0 := h3
    walk_at "sx"
    refine q_andV ?_
    refine q_chain ?_
    walk_at "sx"
    refine ifd (fun e => ?_) (fun e => absurd (Int.ofNat_lt.mpr h1') e)
    refine q_andV ?_
    refine q_chain ?_
    walk_at "sx"
    refine ifd (fun e => ?_) (fun e => absurd (Int.ofNat_lt.mpr h2') e)
    refine q_andV ?_
    walk_at "sx"
    refine ifn (fun e => ?_) (fun e => absurd (Int.ofNat.inj e) h3')
    walk_at "sx"
    rw [decide_eq_true le]
    exact q
def spRuleRows (K : PySem.W.Frag) : Sp := fun vs H Q _ => ∃ (a : Addr) (xs : List V) (R : Nat → Kw.Row) (n : Nat), vs = [.ref a] ∧ SqT K H a xs ∧ Tups K H row4 R n xs ∧ n ≤ 1000 ∧ (∀ i, i < n → (R i).rm = none) ∧ ∀ H' o, Same H H' → H o = none → RowsAt K H' o R n → Q (.ref o) H'
theorem ok_rule_rows (D : Dk K mg "rule_rows" s_rule_rows) : Has P w K mg base CX0 1 "rule_rows" ["rules"] (spRuleRows K) := by
  have sc := sc_rule_rows
  refine D.has0 sc (fun vs H Q E h => ?_) (fun _ _ _ _ _ _ us hl => match us, hl with | [_], _ => rfl) (fun f cdv A outer s H vs Q E hr h => ?_)
  · obtain ⟨a, xs, R, n, rfl, _⟩ := h
    rfl
  · obtain ⟨a, xs, R, n, rfl, ha, ht, hn, hr0, q⟩ := h
    refine ⟨_, (pss_one (ps_ret (pe_lc (own := [("first", 1), ("second", 2), ("low", 3), ("high", 4)]) (tt := tYes) rfl sc.nd (pi_tupK (K := K) rfl (pv 0)) (blkOk_by (by kernel_rfl)) (fun _ _ _ _ _ => (pg_tupK (K := K) (n := 4) rfl rfl (pgs_cons (pg_name (i := 1) sc.nd rfl (Or.inl rfl)) (pgs_cons (pg_name (i := 2) sc.nd rfl (Or.inl rfl)) (pgs_cons (pg_name (i := 3) sc.nd rfl (Or.inl rfl)) (pgs_cons (pg_name (i := 4) sc.nd rfl (Or.inl rfl)) pgs_nil)))))) (fun _ _ _ _ _ => pts_nil) (fun _ _ _ _ _ => (pe_tup (pa_cons (pv 1) (pa_cons (pv 2) (pa_cons (pv 3) (pa_cons (pv 4) (pa_cons pe_non pa_nil)))))))))), ?_⟩
    walk_at "sx"
    refine q_lcT ha (fun Qv qv => ⟨_, rfl, qv⟩) fun o no => ⟨fun i H' => i ≤ n ∧ ∃ ys, Same H H' ∧ H' o = some (.lst ys) ∧ Tups K H' row5 R i ys, ⟨Nat.zero_le _, [], same_upd no, upd_same, rfl, fun k hk => absurd hk (Nat.not_lt_zero _)⟩, ?_, ?_, ?_⟩
    · rintro i H' hi ⟨_, ys, s1, _⟩
      exact Same.sqt s1 ha
    · rintro i x H' hx ⟨_, ys, s1, h1, t1⟩
      obtain ⟨hi, p, rfl, hp⟩ := ht.get hx
      refine q_g4 (Same.sqt s1 hp) ?_
      refine ⟨rfl, ?_⟩
      walk_at "sx"
      refine ⟨line_le (n := 5) (by decide), fun t nt => ?_⟩
      have s2 : Same H' (upd H' t (.tup [.int (R i).f, .int (R i).s, oV (R i).lo, oV (R i).hi, .non])) := same_upd nt
      have hto : t ≠ o := (ne_of_none h1 nt).symm
      have k3 : Keep (· = o) H' (upd (upd H' t (.tup [.int (R i).f, .int (R i).s, oV (R i).lo, oV (R i).hi, .non])) o (.lst (ys ++ [.ref t]))) := (Same.keep s2).upd rfl
      refine ⟨ys, s2 _ _ h1, line_of (by rw [t1.1]; omega), hi, _, (s1.trans s2).mut' no, upd_same, ?_, fun k hk => ?_⟩
      · rw [List.length_append, t1.1]
        rfl
      · by_cases e : k = i
        · subst e
          refine ⟨t, ?_, SqT.of ?_⟩
          · rw [← t1.1, List.getElem?_append_right (Nat.le_refl _), Nat.sub_self]
            rfl
          · rw [upd_ne hto, upd_same]
            show _ = some (HO.tup [.int (R k).f, .int (R k).s, oV (R k).lo, oV (R k).hi, oV (R k).rm])
            rw [hr0 k hi]
        · obtain ⟨p1, e1, t2⟩ := t1.2 k (by omega)
          refine ⟨p1, ?_, k3.sqt (fun b e => by rw [e]; exact ⟨_, h1⟩) t2⟩
          rw [List.getElem?_append_left (by rw [t1.1]; omega)]
          exact e1
    · rintro H' ⟨_, ys, s1, h1, t1⟩
      rw [ht.1] at t1
      exact q H' o s1 no (t1.rows h1)
end
end Kt

namespace Kt
open PySem PySem.Spec PyProof.Rows L2
local macro_rules
  | `(tactic| walk_at "sx") => `(tactic| repeat (first
    | with_reducible refine q_seq ?_ | with_reducible refine q_par ?_ | with_reducible refine q_augS ?_ | with_reducible refine q_rev ?_ | with_reducible refine q_yes ?_ | with_reducible refine q_gname ?_ | with_reducible refine q_setG ?_ | with_reducible refine q_ip ?_ | with_reducible refine q_asg ?_ | with_reducible refine q_asgG ?_ | with_reducible refine q_ret ?_ | with_reducible refine q_drop ?_ | with_reducible refine q_if ?_ | with_reducible refine q_next ?_
    | with_reducible refine q_test ?_ | with_reducible refine q_tB ?_ | with_reducible refine q_chain ?_ | with_reducible refine q_andV ?_ | with_reducible refine q_bl ?_ | with_reducible refine q_exint ?_ | ((with_reducible show tAug _ _ _ _ _ _); refine q_aug rfl ?_) | with_reducible refine q_not ?_ | with_reducible refine q_and ?_ | with_reducible refine q_or ?_
    | with_reducible refine q_op ?_ | with_reducible refine q_un ?_ | with_reducible refine q_c ?_ | ((with_reducible show tVar _ _ _ _); refine q_var rfl ?_)
    | with_reducible refine q_i0 ?_ | with_reducible refine q_u ?_ | with_reducible refine q_eq ?_ | with_reducible refine q_ne ?_ | with_reducible refine q_isN ?_ | with_reducible refine q_notN ?_ | with_reducible refine q_min2 ?_ | with_reducible refine q_abs ?_ | with_reducible refine q_int ?_
    | with_reducible refine q_nil ?_ | with_reducible refine q_cons ?_ | with_reducible refine q_tup ?_ | with_reducible refine q_lst ?_ | with_reducible refine q_call ?_ | with_reducible refine q_makeN ?_ | with_reducible refine q_make ?_ | with_reducible refine q_cb ?_
    | ((with_reducible show ite _ _ _); first | refine ift rfl ?_ | refine iff' rfl ?_)))
-- slots: 0 rules 1 found 2 index 3 rule
abbrev s_rule_arcs : Stmt := topS 10
theorem sc_rule_arcs : FnScope ["rules", "found", "index", "rule"] ["rules"] (defScope s_rule_arcs) := ⟨rfl, rfl, rfl, by decide +kernel, rfl, by decide +kernel, by decide +kernel⟩
-- slots: 0 size 1 rules 2 reached 3 node 4 turn 5 first 6 second 7 low 8 high
abbrev s_all_connected : Stmt := topS 41
theorem sc_all_connected : FnScope ["size", "rules", "reached", "node", "turn", "first", "second", "low", "high"] ["size", "rules"] (defScope s_all_connected) := ⟨rfl, rfl, rfl, by decide +kernel, rfl, by decide +kernel, by decide +kernel⟩
section
variable {P : Program} {w : World} {K : PySem.W.Frag} {mg : Str → Option Value} {base : Heap}
def rArcs (R : Nat → Kw.Row) : Nat → List Kw.Arc
  | 0 => []
  | n + 1 => rArcs R n ++ ruArcs (R n)
theorem rArcs_len (R : Nat → Kw.Row) : ∀ n, (rArcs R n).length = 2 * n
  | 0 => rfl
  | n + 1 => by
    unfold rArcs
    rw [List.length_append, rArcs_len R n]
    show 2 * n + 2 = _
    omega
theorem ArcVs.len {K : PySem.W.Frag} {H : Hp} {b : Bool} {vs : List V} {as : List Kw.Arc} (h : ArcVs K H b vs as) : vs.length = as.length := Paired.length h
def spRuleArcs (K : PySem.W.Frag) : Sp := fun vs H Q _ => ∃ (a : Addr) (xs : List V) (R : Nat → Kw.Row) (n : Nat), vs = [.ref a] ∧ SqT K H a xs ∧ Tups K H row4 R n xs ∧ n ≤ 1000 ∧ (∀ i, i < n → ∃ a b, (R i).lo = some a ∧ (R i).hi = some b) ∧
  ∀ H' o as, Same H H' → H o = none → H' o = some (.lst as) → ArcVs K H' false as (rArcs R n) → Q (.ref o) H'
theorem ok_rule_arcs (D : Dk K mg "rule_arcs" s_rule_arcs) (fr : Fr mg) (h_bound_arcs : Has P w K mg base CX0 1 "bound_arcs" ["bounds", "source", "index"] (spBound K)) : Has P w K mg base CX0 2 "rule_arcs" ["rules"] (spRuleArcs K) := by
  have sc := sc_rule_arcs
  refine D.has0 sc (fun vs H Q E h => ?_) (fun _ _ _ _ _ _ us hl => match us, hl with | [_], _ => rfl) (fun f cdv A outer s H vs Q E hr h => ?_)
  · obtain ⟨a, xs, R, n, rfl, _⟩ := h
    rfl
  · obtain ⟨a, xs, R, n, rfl, ha, ht, hn, hb, q⟩ := h
    refine ⟨_, (pss_cons (ps_set (i := 1) sc.nd rfl (Or.inl rfl) (pe_lst pa_nil))
       (pss_cons (ps_for PassesOwn.never rfl (pi_enumT (K := K) rfl (by rfl) fr.enumerate (pa_cons (pv 0) pa_nil)) (pg_tupK (K := K) (n := 2) rfl rfl (pgs_cons (pg_name (i := 2) sc.nd rfl (Or.inl rfl)) (pgs_cons (pg_name (i := 3) sc.nd rfl (Or.inl rfl)) pgs_nil)))
        (pss_one (ps_expr (bmK (K := K) (pe_bm PySem.F.plainAttrs_list PySem.F.slot_list_extend PySem.F.type_list_extend mt_extend (pv 1) (pa_cons (pe_has h_bound_arcs (hr.mono (by decide)) pass0 (pa_cons (pv 3) (pa_cons pe_str (pa_cons (pv 2) pa_nil)))) pa_nil)) rfl))))
       (pss_one (ps_ret (pv 1))))), ?_⟩
    walk_at "sx"
    refine ⟨line_le (n := 0) (by decide), fun o no => ?_⟩
    have s1 : Same H (upd H o (.lst [])) := same_upd no
    walk_at "sx"
    refine q_forET rfl ⟨a, xs, rfl, Same.sqt s1 ha, fun i σ H' => i ≤ n ∧ ∃ y2 y3 as, σ = [some (.ref a), some (.ref o), y2, y3] ∧ Same H H' ∧ H' o = some (.lst as) ∧ ArcVs K H' false as (rArcs R i), ?_, ?_, ?_, ?_⟩
    · exact ⟨Nat.zero_le _, _, _, [], rfl, s1, upd_same, .nil⟩
    · rintro i σ H' hi ⟨_, y2, y3, as, rfl, s2, h2, v2⟩
      exact Same.sqt s2 ha
    · rintro i x σ H' t hx ⟨_, y2, y3, as, rfl, s2, h2, v2⟩ nt
      obtain ⟨hi, p, rfl, hp⟩ := ht.get hx
      obtain ⟨b, c, e1, e2⟩ := hb i hi
      have s3 : Same H' (upd H' t (.tup [.int (i : Int), .ref p])) := same_upd nt
      generalize upd H' t (.tup [.int (i : Int), .ref p]) = H3 at s3
      walk_at "sx"
      refine q_extV rfl (s3 _ _ h2) ?_
      walk_at "sx"
      refine ⟨p, _, i, R i, b, c, rfl, Same.sqt (s2.trans s3) hp, e1, e2, fun H4 o2 as2 s4 n2 h4 v4 => ?_⟩
      walk_at "sx"
      have hno : o2 ≠ o := (ne_of_none (s3 _ _ h2) n2).symm
      refine q_rext (s4 _ _ (s3 _ _ h2)) h4 ?_ ?_
      · rw [ArcVs.len v2, ArcVs.len v4, rArcs_len]
        exact line_le (by show 2 * i + 2 ≤ _; omega)
      · have k5 : Keep (· = o) H4 (upd H4 o (.lst (as ++ as2))) := (Keep.refl _ _).upd rfl
        have lst : ∀ b, b = o → ∃ xs, H4 b = some (.lst xs) := fun b e => by rw [e]; exact ⟨_, s4 _ _ (s3 _ _ h2)⟩
        walk_at "sx"
        exact ⟨hi, _, _, _, rfl, ((s2.trans s3).trans s4).mut' no, upd_same, Paired.app (k5.arcs lst (ArcVs.same (s3.trans s4) v2)) (k5.arcs lst v4)⟩
    · rintro σ H' ⟨_, y2, y3, as, rfl, s2, h2, v2⟩
      rw [ht.1] at v2
      walk_at "sx"
      exact q H' o as s2 no h2 v2
def Tree (n k : Nat) (R : Nat → Kw.Row) : Prop := ∀ v, 0 < v → v < n → ∃ i, i < k ∧ ∃ u, u < v ∧ (((R i).f = v ∧ (R i).s = u) ∨ ((R i).f = u ∧ (R i).s = v))
def spConn (K : PySem.W.Frag) : Sp := fun vs H Q _ => ∃ (n k : Nat) (a : Addr) (xs : List V) (R : Nat → Kw.Row), vs = [.int n, .ref a] ∧ SqT K H a xs ∧ Tups K H row4 R k xs ∧ n ≤ 1000 ∧ (∀ i, i < k → (R i).f < n ∧ (R i).s < n) ∧ Tree n k R ∧
  ∀ H', Same H H' → Q (.bl true) H'
theorem all_of {n : Nat} {rb : Nat → Bool} (h : ∀ i, i < n → rb i = true) : ((List.range n).map rb).all id = true := by
  rw [List.all_eq_true]
  intro b hb
  obtain ⟨i, hi, rfl⟩ := List.mem_map.mp hb
  exact h i (List.mem_range.mp hi)
theorem ok_all_connected (D : Dk K mg "all_connected" s_all_connected) (fr : Fr mg) : Has P w K mg base CX0 1 "all_connected" ["size", "rules"] (spConn K) := by
  have sc := sc_all_connected
  refine D.has0 sc (fun vs H Q E h => ?_) (fun _ _ _ _ _ _ us hl => match us, hl with | [_, _], _ => rfl) (fun f cdv A outer s H vs Q E hr h => ?_)
  · obtain ⟨n, k, a, xs, R, rfl, _⟩ := h
    rfl
  · obtain ⟨n, k, a, xs, R, rfl, ha, ht, hn, hl, tr, q⟩ := h
    refine ⟨_, (pss_cons (ps_setLc (i := 2) (own := [("node", 3)]) (g := gName 3) (tt := tYes) rfl sc.nd rfl rfl (sw_true rfl rfl rfl (by decide +kernel)) (pi_range1 (by rfl) fr.range (pa_cons (pv 0) pa_nil)) (blkOk_by (by kernel_rfl)) (fun _ _ _ _ _ => (pg_name (i := 3) sc.nd rfl (Or.inl rfl))) (fun _ _ _ _ _ => pts_nil) (fun _ _ _ _ _ => (pe_cmpR op_eq (pv 3) pe_int (nomark _))))
       (pss_cons (ps_for PassesOwn.never rfl (pi_range1 (by rfl) fr.range (pa_cons (pv 0) pa_nil)) (pg_name (i := 4) sc.nd rfl (Or.inl rfl))
        (pss_one (ps_for PassesOwn.never rfl (pi_tupK (K := K) rfl (pv 1)) (pg_tupK (K := K) (n := 4) rfl rfl (pgs_cons (pg_name (i := 5) sc.nd rfl (Or.inl rfl)) (pgs_cons (pg_name (i := 6) sc.nd rfl (Or.inl rfl)) (pgs_cons (pg_name (i := 7) sc.nd rfl (Or.inl rfl)) (pgs_cons (pg_name (i := 8) sc.nd rfl (Or.inl rfl)) pgs_nil)))))
        (pss_one (ps_if (PW.pt (pw_or (pt_val (pe_ixL (K := K) rfl (pv 2) (pv 5) (fun _ _ => rfl))) (pw_or1 (pt_val (pe_ixL (K := K) rfl (pv 2) (pv 6) (fun _ _ => rfl)))))) (pss_cons (ps_asg pe_bl (pg_sub (pv 2) (pv 5) set_list))
       (pss_one (ps_asg pe_bl (pg_sub (pv 2) (pv 6) set_list)))) pss_nil)))))
       (pss_one (ps_ret (pe_callB (id := "all") (c_all (K := K) rfl rfl) (by rfl) fr.all (by decide +kernel) (pa_cons (pv 2) pa_nil)))))), ?_⟩
    walk_at "sx"
    refine q_lcR rfl ⟨n, rfl, line_le' hn, fun o no => ⟨fun i H' => H' = upd H o (.lst (flV (fun k => .bl (decide ((k : Int) = 0))) i)), ?_, ?_, ?_⟩⟩
    · rfl
    · rintro i H' hi rfl
      walk_at "sx"
      refine ⟨_, upd_same, by rw [flV_len]; exact line_of (by omega), ?_⟩
      rw [upd_upd]
      show _ = upd H o (.lst (flV (fun k => .bl (decide ((k : Int) = 0))) (i + 1)))
      rw [← flV_snoc]
    · rintro H' rfl
      have s1 : Same H (upd H o (.lst (flV (fun k => .bl (decide ((k : Int) = 0))) n))) := same_upd no
      have h1 : (upd H o (.lst (flV (fun k => .bl (decide ((k : Int) = 0))) n))) o = some (.lst (flV (fun k => .bl (decide ((k : Int) = 0))) n)) := upd_same
      generalize upd H o (.lst (flV (fun k => .bl (decide ((k : Int) = 0))) n)) = H1 at s1 h1
      walk_at "sx"
      refine q_forR rfl ⟨n, rfl, line_le' hn, fun t σ H' => ∃ y3 y4 y5 y6 y7 y8, ∃ rb : Nat → Bool, σ = [some (.int n), some (.ref a), some (.ref o), y3, y4, y5, y6, y7, y8] ∧ Same H H' ∧ H' o = some (.lst (flV (fun k => .bl (rb k)) n)) ∧ ∀ v, v ≤ t → v < n → rb v = true, ?_, ?_, ?_⟩
      · exact ⟨_, _, _, _, _, _, fun k => decide ((k : Int) = 0), rfl, s1, h1, fun v hv _ => decide_eq_true (by omega)⟩
      · rintro t σ H' hi ⟨y3, y4, y5, y6, y7, y8, rb, rfl, s2, h2, r2⟩
        refine q_forT rfl ⟨a, xs, rfl, Same.sqt s2 ha, fun i σ H3 => ∃ y5 y6 y7 y8, ∃ rc : Nat → Bool, σ = [some (.int n), some (.ref a), some (.ref o), y3, some (.int t), y5, y6, y7, y8] ∧ Same H H3 ∧ H3 o = some (.lst (flV (fun k => .bl (rc k)) n)) ∧ (∀ v, rb v = true → rc v = true) ∧ ∀ j, j < i → (rb (R j).f = true ∨ rb (R j).s = true) → rc (R j).f = true ∧ rc (R j).s = true, ?_, ?_, ?_, ?_⟩
        · exact ⟨_, _, _, _, rb, rfl, s2, h2, fun _ e => e, fun j z => absurd z (Nat.not_lt_zero _)⟩
        · rintro i σ H3 hi ⟨y5, y6, y7, y8, rc, rfl, s3, h3, m3, r3⟩
          exact Same.sqt s3 ha
        · rintro i x σ H3 hx ⟨y5, y6, y7, y8, rc, rfl, s3, h3, m3, r3⟩
          obtain ⟨hik, p, rfl, hp⟩ := ht.get hx
          obtain ⟨l1, l2⟩ := hl i hik
          have yes : (∀ v, rb v = true → rc v = true) → tSeq (tAsg (tC (.bl true)) (gSub (tVar 2) (tVar 5) rSetL)) (tAsg (tC (.bl true)) (gSub (tVar 2) (tVar 6) rSetL)) { nx := fun σ H3 => ∃ y5 y6 y7 y8, ∃ rc : Nat → Bool, σ = [some (.int n), some (.ref a), some (.ref o), y3, some (.int t), y5, y6, y7, y8] ∧ Same H H3 ∧ H3 o = some (.lst (flV (fun k => .bl (rc k)) n)) ∧ (∀ v, rb v = true → rc v = true) ∧ ∀ j, j < i + 1 → (rb (R j).f = true ∨ rb (R j).s = true) → rc (R j).f = true ∧ rc (R j).s = true, rt := Q }
              [some (.int n), some (.ref a), some (.ref o), y3, some (.int t), some (.int (R i).f), some (.int (R i).s), some (oV (R i).lo), some (oV (R i).hi)] H3 := fun m => by
            walk_at "sx"
            refine q_set h3 (by rw [flV_len]; exact l1) ?_
            rw [flV_set]
            walk_at "sx"
            refine q_set upd_same (by rw [flV_len]; exact l2) ?_
            rw [flV_set, upd_upd]
            have e : flV (Kw.put (Kw.put (fun k => V.bl (rc k)) (R i).f (.bl true)) (R i).s (.bl true)) n = flV (fun k => .bl (Kw.put (Kw.put rc (R i).f true) (R i).s true k)) n := flV_congr fun j _ => by
              by_cases z : j = (R i).s
              · rw [z, Kw.put_same, Kw.put_same]
              · rw [Kw.put_ne z, Kw.put_ne z]
                by_cases z : j = (R i).f
                · rw [z, Kw.put_same, Kw.put_same]
                · rw [Kw.put_ne z, Kw.put_ne z]
            rw [e]
            have up : ∀ v, rc v = true → Kw.put (Kw.put rc (R i).f true) (R i).s true v = true := fun v h => by
              by_cases z : v = (R i).s
              · rw [z, Kw.put_same]
              · rw [Kw.put_ne z]
                by_cases z : v = (R i).f
                · rw [z, Kw.put_same]
                · rw [Kw.put_ne z]
                  exact h
            have at1 : Kw.put (Kw.put rc (R i).f true) (R i).s true (R i).f = true := by
              by_cases z : (R i).f = (R i).s
              · rw [z, Kw.put_same]
              · rw [Kw.put_ne z, Kw.put_same]
            refine ⟨_, _, _, _, _, rfl, s3.mut' no, upd_same, fun v h => up v (m v h), fun j hj h => ?_⟩
            by_cases z : j = i
            · rw [z]
              exact ⟨at1, Kw.put_same⟩
            · obtain ⟨g1, g2⟩ := r3 j (by omega) h
              exact ⟨up _ g1, up _ g2⟩
          refine q_g4 (Same.sqt s3 hp) ?_
          walk_at "sx"
          refine q_ixLn h3 (flV_get l1) ?_
          refine q_bl ?_
          cases e1 : rc (R i).f with
          | true =>
            refine ift rfl ?_
            refine ift rfl ?_
            exact yes m3
          | false =>
            refine iff' rfl ?_
            walk_at "sx"
            refine q_ixLn h3 (flV_get l2) ?_
            refine q_bl ?_
            cases e2 : rc (R i).s with
            | true =>
              refine ift rfl ?_
              exact yes m3
            | false =>
              walk_at "sx"
              refine ⟨_, _, _, _, rc, rfl, s3, h3, m3, fun j hj h => ?_⟩
              by_cases z : j = i
              · rw [z] at h
                rcases h with h | h
                · rw [m3 _ h] at e1
                  cases e1
                · rw [m3 _ h] at e2
                  cases e2
              · exact r3 j (by omega) h
        · rintro σ H3 ⟨y5, y6, y7, y8, rc, rfl, s3, h3, m3, r3⟩
          rw [ht.1] at r3
          refine ⟨_, _, _, _, _, _, rc, rfl, s3, h3, fun v hv hvn => ?_⟩
          by_cases z : v ≤ t
          · exact m3 v (r2 v z hvn)
          · obtain ⟨j, hj, u, hu, h⟩ := tr v (by omega) hvn
            have hu' := r2 u (by omega) (by omega)
            rcases h with ⟨h1, h2⟩ | ⟨h1, h2⟩
            · rw [← h2] at hu'
              rw [← h1]
              exact (r3 j hj (.inr hu')).1
            · rw [← h1] at hu'
              rw [← h2]
              exact (r3 j hj (.inl hu')).2
      · rintro σ H' ⟨y3, y4, y5, y6, y7, y8, rb, rfl, s2, h2, r2⟩
        walk_at "sx"
        refine ⟨o, (List.range n).map rb, rfl, .of ?_, ?_⟩
        · rw [h2]
          unfold flV
          rw [List.map_map]
          rfl
        · rw [all_of fun i hi => r2 i (Nat.le_of_lt hi) hi]
          exact q H' s2
end
end Kt

/-! Classes of the text. -/
namespace Kt
open PySem PySem.Spec PyProof.Rows L2
def clsS (i j : Nat) : Stmt := match topS i with
  | .ClassDef (body := b) .. => b.getD j (.Pass ⟨0, 0, 0, 0⟩)
  | _ => .Pass ⟨0, 0, 0, 0⟩
abbrev cAt (K : PySem.W.Frag) (x : Str) : Addr := He.ga K x
/-- a def in a class -/
structure DkM (K : PySem.W.Frag) (C nm qual : Str) (st : Stmt) (dvs : List V) (kws : List (Str × V)) : Prop where
  ex : ∃ fd, FunD K nm qual (defArgs st) (defBody st) (defScope st) dvs kws (He.ma K (cAt K C) nm) fd
/-- a class and its fields -/
structure ClsF (K : PySem.W.Frag) (C : Str) (fs : List Str) : Prop where
  cls : Cls K (cAt K C)
  no : ∀ f ∈ fs, NoAttr K (cAt K C) f
/-- C(..) -/
structure HasC (P : Program) (w : World) (K : PySem.W.Frag) (mg : Str → Option Value) (base : Heap) (CX : CXT) (k : Nat) (x : Str) (ps : List Str) (sp : Sp) : Prop where
  ex : ∃ fd, Mk K (cAt K x) (He.ma K (cAt K x) "__init__") ∧ FnOk P w K mg base CX k (He.ma K (cAt K x) "__init__") fd ps sp ∧ Binds K fd ps [] ∧ mg x = some (.ref (cAt K x))
structure HasK (P : Program) (w : World) (K : PySem.W.Frag) (mg : Str → Option Value) (base : Heap) (CX : CXT) (k : Nat) (x : Str) (n : Nat) (ks ps : List Str) (sp : Sp) : Prop where
  ex : ∃ fd g, Mk K (cAt K x) (He.ma K (cAt K x) "__init__") ∧ FnOk P w K mg base CX k (He.ma K (cAt K x) "__init__") fd ps sp ∧ KBn K fd ps (n + 1) ks g (fun vs zs => vs ++ zs) ∧ mg x = some (.ref (cAt K x))
/-- o.m() -/
structure HasM (P : Program) (w : World) (K : PySem.W.Frag) (mg : Str → Option Value) (base : Heap) (CX : CXT) (k : Nat) (C m : Str) (ps : List Str) (sp : Sp) : Prop where
  ex : ∃ fd, Cls K (cAt K C) ∧ Meth K (cAt K C) m (He.ma K (cAt K C) m) ∧ FnOk P w K mg base CX k (He.ma K (cAt K C) m) fd ps sp ∧ Binds K fd ps []
section
variable {X : Cx} {CX : CXT} {k : Nat} {x : Str} {ps : List Str} {sp : Sp} {E : XK} {p pos : Pos} {e : Expr} {es : List Expr} {t tk : TA}
theorem pe_hasC {K : PySem.W.Frag} (hK : X.K = K) (h : HasC X.prog X.w K X.mg X.base CX k x ps sp) (hr : Room (k + 1) X.A) (hx : Passes CX X E) (ha : PA X (e :: es) t) (hg : Gl X x := by rfl) (hdb : (x == ("__debug__" : Str)) = false := by decide)
    (he : starEach (e :: es) X.env = (false, eval e X.env) :: starEach es X.env := by rfl) (hpl : (backTo pos (starEach es X.env)).any (·.1) = false := by rfl) : PE X (.Call (.Name x p) (e :: es) [] pos) (tMake (cAt K x) sp [] E t) := by
  subst hK
  obtain ⟨fd, M, F, b, g⟩ := h.ex
  exact pe_make M F hr hg g b .nil hx ha hdb he hpl
theorem pe_globI {i : Int} {tk0 : Tok} (hg : Gl X x) (hm : X.mg x = some (.int i tk0)) (hdb : (x == ("__debug__" : Str)) = false := by decide) : PE X (.Name x pos) (tC (.int i)) := pe_glob hg hm ⟨_, rfl⟩ hdb
theorem pe_hasK {K : PySem.W.Frag} {n : Nat} {ks : List Str} {kws : List Keyword} (hK : X.K = K) (h : HasK X.prog X.w K X.mg X.base CX k x n ks ps sp) (hr : Room (k + 1) X.A) (hx : Passes CX X E) (ha : PA X (e :: es) t) (hkw : PK X kws tk) (hg : Gl X x := by rfl)
    (hall : (backToKw pos (keywordEach kws X.env)).all (·.1.isSome) = true := by rfl) (hks : (backToKw pos (keywordEach kws X.env)).filterMap (·.1) = ks := by rfl) (hdb : (x == ("__debug__" : Str)) = false := by decide)
    (he : starEach (e :: es) X.env = (false, eval e X.env) :: starEach es X.env := by rfl) (hpl : ((backTo pos (starEach (e :: es) X.env)).any (·.1) || (backToKw pos (keywordEach kws X.env)).any (·.1.isNone)) = false := by rfl) :
    PE X (.Call (.Name x p) (e :: es) kws pos) (tMakeN (cAt K x) n ks.length sp (fun vs zs => vs ++ zs) E t tk) := by
  subst hK
  obtain ⟨fd, g, M, F, b, gm⟩ := h.ex
  exact pe_makeN M F hr hg gm b hx ha hkw hall hks hdb he hpl
theorem pe_hasM {K : PySem.W.Frag} {C m : Str} {o : Expr} {ta : TE} {apos : Pos} {pl : Sem Bool} (hK : X.K = K) (h : HasM X.prog X.w K X.mg X.base CX k C m ps sp) (hr : Room k X.A) (hx : Passes CX X E) (he : PE X o ta)
    (ht : eval (.Call (.Attribute o m apos) [] [] pos) X.env = (do
      let ov ← eval o X.env
      standAt apos.atName
      let (f, first) ← holding [ov] (getMethod ov m pl)
      callWith pos f first (backTo pos (starEach [] X.env)) (backToKw pos (keywordEach [] X.env))) := by rfl) :
    PE X (.Call (.Attribute o m apos) [] [] pos) (tMeth (cAt K C) m sp [] E ta tNil) := by
  subst hK
  obtain ⟨fd, c, M, F, b⟩ := h.ex
  exact pe_meth0 he c M F hr b .nil hx ht
end
/-! ### steps -/
section
variable {K : PySem.W.Frag} {σ : L2.St} {H : Hp} {Q : VK} {D : Ends} {ta tv : TE} {f : Str} {v : V} {a dx : Addr} {C : Addr} {fs : List (Str × V)}
theorem q_fld {i : Nat} (h : σ[i]? = some (some (.ref a))) (e : H a = some (.ins C dx fs)) (c : Cls K C) (n : NoAttr K C f) (l : fs.lookup f = some v) (q : Q v H) : tFld K (tVar i) f σ H Q := ⟨.ref a, h, a, C, dx, fs, v, rfl, e, c, n, l, q⟩
theorem q_sfld {i j : Nat} (hj : σ[j]? = some (some v)) (h : σ[i]? = some (some (.ref a))) (e : H a = some (.ins C dx fs)) (c : Cls K C) (n : NoAttr K C f) (l : fs.length < 1000) (q : D.nx σ (upd H a (.ins C dx (putF f v fs)))) : sFld K (tVar i) (tVar j) f D σ H :=
  ⟨v, hj, .ref a, h, a, C, dx, fs, rfl, e, c, n, l, q⟩
theorem q_meth {i : Nat} {m : Str} {sp : Sp} {E : XK} (h : σ[i]? = some (some (.ref a))) (e : H a = some (.ins C dx fs)) (l : fs.lookup m = none) (q : sp [.ref a] H Q E) : tMeth C m sp [] E (tVar i) tNil σ H Q := ⟨.ref a, h, a, dx, fs, rfl, e, l, q⟩
end
theorem ln_put {f : Str} {v : V} {fs : List (Str × V)} {n : Nat} (h : fs.length ≤ n) : (putF f v fs).length ≤ n + 1 := Nat.le_trans (length_putF f v fs) (Nat.succ_le_succ h)
theorem ln0 : ([] : List (Str × V)).length ≤ 0 := Nat.le_refl 0
theorem ln_lt {fs : List (Str × V)} {n : Nat} (h : fs.length ≤ n) (hn : n ≤ 900) : fs.length < 1000 := by omega
theorem q_makeN {C : Addr} {n m : Nat} {sp : Sp} {gV : List V → List V → List V} {E : XK} {t tk : TA} (q : t σ H fun vs H1 => tk σ H1 fun zs H2 => vs.length = n ∧ zs.length = m ∧ ∀ x dx, H2 x = none → H2 dx = none → dx ≠ x → sp (gV (.ref x :: vs) zs) (upd (upd H2 dx (.own x)) x (.ins C dx [])) (fun v H3 => v = .non ∧ Q (.ref x) H3) E) : tMakeN C n m sp gV E t tk σ H Q := q
theorem q_make {C : Addr} {sp : Sp} {E : XK} {t : TA} (q : t σ H fun vs H1 => ∀ x dx, H1 x = none → H1 dx = none → dx ≠ x → sp (.ref x :: (vs ++ [])) (upd (upd H1 dx (.own x)) x (.ins C dx [])) (fun v H2 => v = .non ∧ Q (.ref x) H2) E) : tMake C sp [] E t σ H Q := q
/-! ### claims -/
def claimF (r : Kw.Row) : List (Str × V) := [("first", .int r.f), ("second", .int r.s), ("low", oV r.lo), ("high", oV r.hi), ("weight", oV r.rm)]
def claimNames : List Str := ["first", "second", "low", "high", "weight"]
def ClmAt (K : PySem.W.Frag) (H : Hp) (p : Addr) (r : Kw.Row) : Prop := ∃ dx, H p = some (.ins (cAt K "Claim") dx (claimF r))
def Clms (K : PySem.W.Frag) (H : Hp) (R : Nat → Kw.Row) (n : Nat) (vs : List V) : Prop := vs.length = n ∧ ∀ i, i < n → ∃ p, vs[i]? = some (.ref p) ∧ ClmAt K H p (R i)
theorem Clms.get {K : PySem.W.Frag} {H : Hp} {R : Nat → Kw.Row} {n : Nat} {vs : List V} (h : Clms K H R n vs) {i : Nat} {v : V} (e : vs[i]? = some v) : i < n ∧ ∃ p, v = .ref p ∧ ClmAt K H p (R i) := by
  have hi : i < n := by
    rw [← h.1]
    exact (List.getElem?_eq_some_iff.mp e).1
  obtain ⟨p, h1, h2⟩ := h.2 i hi
  rw [h1] at e
  exact ⟨hi, p, (Option.some.inj e).symm, h2⟩
theorem Clms.same {K : PySem.W.Frag} {H H' : Hp} {R : Nat → Kw.Row} {n : Nat} {vs : List V} (h : Clms K H R n vs) (e : Same H H') : Clms K H' R n vs := ⟨h.1, fun i hi => by
  obtain ⟨p, h1, dx, h2⟩ := h.2 i hi
  exact ⟨p, h1, dx, e _ _ h2⟩⟩
/-- the claims: a list or a tuple of them -/
def ClsAt (K : PySem.W.Frag) (H : Hp) (a : Addr) (R : Nat → Kw.Row) (n : Nat) : Prop := ∃ vs, (SqL K H a vs ∨ SqT K H a vs) ∧ Clms K H R n vs
theorem ClsAt.same {K : PySem.W.Frag} {H H' : Hp} {a : Addr} {R : Nat → Kw.Row} {n : Nat} (h : ClsAt K H a R n) (e : Same H H') : ClsAt K H' a R n := by
  obtain ⟨vs, h1, h2⟩ := h
  refine ⟨vs, ?_, h2.same e⟩
  rcases h1 with h1 | h1
  · exact .inl (Same.sql e h1)
  · exact .inr (Same.sqt e h1)
end Kt

namespace Kt
open PySem PySem.Spec PyProof.Rows L2
local macro_rules
  | `(tactic| walk_at "sx") => `(tactic| repeat (first
    | with_reducible refine q_seq ?_ | with_reducible refine q_par ?_ | with_reducible refine q_augS ?_ | with_reducible refine q_rev ?_ | with_reducible refine q_yes ?_ | with_reducible refine q_gname ?_ | with_reducible refine q_setG ?_ | with_reducible refine q_ip ?_ | with_reducible refine q_asg ?_ | with_reducible refine q_asgG ?_ | with_reducible refine q_ret ?_ | with_reducible refine q_drop ?_ | with_reducible refine q_if ?_ | with_reducible refine q_next ?_
    | with_reducible refine q_test ?_ | with_reducible refine q_tB ?_ | with_reducible refine q_chain ?_ | with_reducible refine q_andV ?_ | with_reducible refine q_bl ?_ | with_reducible refine q_exint ?_ | ((with_reducible show tAug _ _ _ _ _ _); refine q_aug rfl ?_) | with_reducible refine q_not ?_ | with_reducible refine q_and ?_ | with_reducible refine q_or ?_
    | with_reducible refine q_op ?_ | with_reducible refine q_un ?_ | with_reducible refine q_c ?_ | ((with_reducible show tVar _ _ _ _); refine q_var rfl ?_)
    | with_reducible refine q_i0 ?_ | with_reducible refine q_u ?_ | with_reducible refine q_eq ?_ | with_reducible refine q_ne ?_ | with_reducible refine q_isN ?_ | with_reducible refine q_notN ?_ | with_reducible refine q_min2 ?_ | with_reducible refine q_abs ?_ | with_reducible refine q_int ?_
    | with_reducible refine q_nil ?_ | with_reducible refine q_cons ?_ | with_reducible refine q_tup ?_ | with_reducible refine q_lst ?_ | with_reducible refine q_call ?_ | with_reducible refine q_makeN ?_ | with_reducible refine q_make ?_ | with_reducible refine q_cb ?_
    | ((with_reducible show ite _ _ _); first | refine ift rfl ?_ | refine iff' rfl ?_)))
-- slots: 0 self 1 first 2 second 3 low 4 high 5 weight
abbrev s_Claim__init : Stmt := clsS 36 0
theorem sc_Claim__init : FnScope ["self", "first", "second", "low", "high", "weight"] ["self", "first", "second", "low", "high", "weight"] (defScope s_Claim__init) := ⟨rfl, rfl, rfl, by decide +kernel, rfl, by decide +kernel, by decide +kernel⟩
section
variable {P : Program} {w : World} {K : PySem.W.Frag} {mg : Str → Option Value} {base : Heap}
structure ClmOk (r : Kw.Row) : Prop where
  f : r.f ≤ 15
  s : r.s ≤ 15
  le : ∀ a b, r.lo = some a → r.hi = some b → a ≤ b
  rm : ∃ w, r.rm = some w ∧ 1 ≤ w ∧ w ≤ 99
def spClaimI (K : PySem.W.Frag) : Sp := fun vs H Q _ => ∃ (me dx : Addr) (r : Kw.Row), vs = [.ref me, .int r.f, .int r.s, oV r.lo, oV r.hi, oV r.rm] ∧ ClmOk r ∧ H me = some (.ins (cAt K "Claim") dx []) ∧ Q .non (upd H me (.ins (cAt K "Claim") dx (claimF r)))
theorem ok_Claim {t1 t2 : Tok} (D : DkM K "Claim" "__init__" "Claim.__init__" s_Claim__init [.non, .non] [("weight", .int 1)]) (M : Mk K (cAt K "Claim") (He.ma K (cAt K "Claim") "__init__")) (C : ClsF K "Claim" claimNames) (gm : mg "Claim" = some (.ref (cAt K "Claim")))
    (g_LAST_NODE : mg "LAST_NODE" = some (.int 15 t1)) (g_MOST_WEIGHT : mg "MOST_WEIGHT" = some (.int 99 t2)) :
    HasK P w K mg base CX0 1 "Claim" 4 ["weight"] ["self", "first", "second", "low", "high", "weight"] (spClaimI K) := by
  obtain ⟨fd, F⟩ := D.ex
  have sc := sc_Claim__init
  obtain ⟨its, kb⟩ := F.kbindsD (ps := ["self", "first", "second", "low", "high", "weight"]) 5 ["weight"] (fun us _ ws => us ++ ws) (by simp) (fun r1 _ r3 => r1.append r3) (fun T kV doc pm an cdv ct us its ws l1 l2 l3 =>
    match us, its, ws, l1, l2, l3 with
    | [_, _, _, _, _], [_, _], [_], _, _, _ => ⟨_, rfl, rfl⟩)
  refine ⟨fd, _, M, F.ok sc (fun vs H Q E h => ?_) (fun cdv A outer s H vs Q E hr h => ?_), kb, gm⟩
  · obtain ⟨me, dx, r, rfl, _⟩ := h
    rfl
  · obtain ⟨me, dx, ⟨rf, rs, lo, hi, rm⟩, rfl, ⟨hf, hs, hle, wt, hw, hw1, hw2⟩, hm, q⟩ := h
    cases hw
    suffices z : ∃ t, PSs (cxOf CX0 P w K mg base ["self", "first", "second", "low", "high", "weight"] "Claim.__init__" (defScope s_Claim__init) (He.ma K (cAt K "Claim") "__init__") cdv A outer s H E).nox (defBody s_Claim__init) t ∧ t { nx := fun _ H' => Q .non H', rt := Q } (start ["self", "first", "second", "low", "high", "weight"] [.ref me, .int rf, .int rs, oV lo, oV hi, oV (some wt)]) H by
      obtain ⟨t, h1, h2⟩ := z
      exact ⟨t, h1.nox, h2⟩
    refine ⟨_, (pss_cons (ps_if (PW.pt (pw_or (pt_not (pt_chain op_le op_le pe_int (pv 1) (pe_globI (by rfl) g_LAST_NODE))) (pw_or1 (pt_not (pt_chain op_le op_le pe_int (pv 2) (pe_globI (by rfl) g_LAST_NODE)))))) (pss_one ps_never) pss_nil)
       (pss_cons (ps_if (PW.pt (pw_and (pt_cmpR o_notN (pv 3) pe_non (nomark _)) (pw_and (pt_cmpR o_notN (pv 4) pe_non (nomark _)) (pw_and1 (pt_cmpR op_gt (pv 3) (pv 4) (nomark _)))))) (pss_one ps_never) pss_nil)
       (pss_cons (ps_if (pt_not (pt_chain op_le op_le pe_int (pv 5) (pe_globI (by rfl) g_MOST_WEIGHT))) (pss_one ps_never) pss_nil)
       (pss_cons (ps_fld (pv 0) (pv 1) rfl)
       (pss_cons (ps_fld (pv 0) (pv 2) rfl)
       (pss_cons (ps_fld (pv 0) (pv 3) rfl)
       (pss_cons (ps_fld (pv 0) (pv 4) rfl)
       (pss_one (ps_fld (pv 0) (pv 5) rfl))))))))), ?_⟩
    have n1 : NoAttr K (cAt K "Claim") "first" := C.no _ (by decide)
    have n2 : NoAttr K (cAt K "Claim") "second" := C.no _ (by decide)
    have n3 : NoAttr K (cAt K "Claim") "low" := C.no _ (by decide)
    have n4 : NoAttr K (cAt K "Claim") "high" := C.no _ (by decide)
    have n5 : NoAttr K (cAt K "Claim") "weight" := C.no _ (by decide)
    walk_at "sx"
    refine ifn (fun e => absurd (Int.ofNat_le.mpr hf) e) (fun _ => ?_)
    walk_at "sx"
    refine ifn (fun e => absurd (Int.ofNat_le.mpr hs) e) (fun _ => ?_)
    walk_at "sx"
    cases lo with
    | none =>
      walk_at "sx"
      have e1 : decide ((1 : Int) ≤ wt) = true := decide_eq_true hw1
      refine ift e1 ?_
      walk_at "sx"
      refine ifn (fun e => absurd hw2 e) (fun _ => ?_)
      walk_at "sx"
      refine q_sfld rfl rfl hm C.cls n1 (ln_lt ln0 (by decide)) ?_
      walk_at "sx"
      refine q_sfld rfl rfl upd_same C.cls n2 (ln_lt (ln_put ln0) (by decide)) ?_
      walk_at "sx"
      refine q_sfld rfl rfl upd_same C.cls n3 (ln_lt (ln_put (ln_put ln0)) (by decide)) ?_
      walk_at "sx"
      refine q_sfld rfl rfl upd_same C.cls n4 (ln_lt (ln_put (ln_put (ln_put ln0))) (by decide)) ?_
      walk_at "sx"
      refine q_sfld rfl rfl upd_same C.cls n5 (ln_lt (ln_put (ln_put (ln_put (ln_put ln0)))) (by decide)) ?_
      rw [upd_upd, upd_upd, upd_upd, upd_upd]
      exact q
    | some a =>
      walk_at "sx"
      cases hi with
      | none =>
        walk_at "sx"
        have e1 : decide ((1 : Int) ≤ wt) = true := decide_eq_true hw1
        refine ift e1 ?_
        walk_at "sx"
        refine ifn (fun e => absurd hw2 e) (fun _ => ?_)
        walk_at "sx"
        refine q_sfld rfl rfl hm C.cls n1 (ln_lt ln0 (by decide)) ?_
        walk_at "sx"
        refine q_sfld rfl rfl upd_same C.cls n2 (ln_lt (ln_put ln0) (by decide)) ?_
        walk_at "sx"
        refine q_sfld rfl rfl upd_same C.cls n3 (ln_lt (ln_put (ln_put ln0)) (by decide)) ?_
        walk_at "sx"
        refine q_sfld rfl rfl upd_same C.cls n4 (ln_lt (ln_put (ln_put (ln_put ln0))) (by decide)) ?_
        walk_at "sx"
        refine q_sfld rfl rfl upd_same C.cls n5 (ln_lt (ln_put (ln_put (ln_put (ln_put ln0)))) (by decide)) ?_
        rw [upd_upd, upd_upd, upd_upd, upd_upd]
        exact q
      | some b =>
        walk_at "sx"
        have := hle a b rfl rfl
        refine ifd (fun e => absurd e (by omega)) (fun _ => ?_)
        walk_at "sx"
        have e1 : decide ((1 : Int) ≤ wt) = true := decide_eq_true hw1
        refine ift e1 ?_
        walk_at "sx"
        refine ifn (fun e => absurd hw2 e) (fun _ => ?_)
        walk_at "sx"
        refine q_sfld rfl rfl hm C.cls n1 (ln_lt ln0 (by decide)) ?_
        walk_at "sx"
        refine q_sfld rfl rfl upd_same C.cls n2 (ln_lt (ln_put ln0) (by decide)) ?_
        walk_at "sx"
        refine q_sfld rfl rfl upd_same C.cls n3 (ln_lt (ln_put (ln_put ln0)) (by decide)) ?_
        walk_at "sx"
        refine q_sfld rfl rfl upd_same C.cls n4 (ln_lt (ln_put (ln_put (ln_put ln0))) (by decide)) ?_
        walk_at "sx"
        refine q_sfld rfl rfl upd_same C.cls n5 (ln_lt (ln_put (ln_put (ln_put (ln_put ln0)))) (by decide)) ?_
        rw [upd_upd, upd_upd, upd_upd, upd_upd]
        exact q
end
end Kt

namespace Kt
open PySem PySem.Spec PyProof.Rows L2
local macro_rules
  | `(tactic| walk_at "sx") => `(tactic| repeat (first
    | with_reducible refine q_seq ?_ | with_reducible refine q_par ?_ | with_reducible refine q_augS ?_ | with_reducible refine q_rev ?_ | with_reducible refine q_yes ?_ | with_reducible refine q_gname ?_ | with_reducible refine q_setG ?_ | with_reducible refine q_ip ?_ | with_reducible refine q_asg ?_ | with_reducible refine q_asgG ?_ | with_reducible refine q_ret ?_ | with_reducible refine q_drop ?_ | with_reducible refine q_if ?_ | with_reducible refine q_next ?_
    | with_reducible refine q_test ?_ | with_reducible refine q_tB ?_ | with_reducible refine q_chain ?_ | with_reducible refine q_andV ?_ | with_reducible refine q_bl ?_ | with_reducible refine q_exint ?_ | ((with_reducible show tAug _ _ _ _ _ _); refine q_aug rfl ?_) | with_reducible refine q_not ?_ | with_reducible refine q_and ?_ | with_reducible refine q_or ?_
    | with_reducible refine q_op ?_ | with_reducible refine q_un ?_ | with_reducible refine q_c ?_ | ((with_reducible show tVar _ _ _ _); refine q_var rfl ?_)
    | with_reducible refine q_i0 ?_ | with_reducible refine q_u ?_ | with_reducible refine q_eq ?_ | with_reducible refine q_ne ?_ | with_reducible refine q_isN ?_ | with_reducible refine q_notN ?_ | with_reducible refine q_min2 ?_ | with_reducible refine q_abs ?_ | with_reducible refine q_int ?_
    | with_reducible refine q_nil ?_ | with_reducible refine q_cons ?_ | with_reducible refine q_tup ?_ | with_reducible refine q_lst ?_ | with_reducible refine q_call ?_ | with_reducible refine q_makeN ?_ | with_reducible refine q_make ?_ | with_reducible refine q_cb ?_
    | ((with_reducible show ite _ _ _); first | refine ift rfl ?_ | refine iff' rfl ?_)))
-- slots: 0 self
abbrev s_Claim_parts : Stmt := clsS 36 5
theorem sc_Claim_parts : FnScope ["self"] ["self"] (defScope s_Claim_parts) := ⟨rfl, rfl, rfl, by decide +kernel, rfl, by decide +kernel, by decide +kernel⟩
-- slots: 0 claims 1 claim
abbrev s_claim_rows : Stmt := topS 22
theorem sc_claim_rows : FnScope ["claims", "claim"] ["claims"] (defScope s_claim_rows) := ⟨rfl, rfl, rfl, by decide +kernel, rfl, by decide +kernel, by decide +kernel⟩
-- slots: 0 _law_tells_here 1 _law_tell
abbrev s__law_claims : Stmt := topS 54
theorem sc__law_claims : FnScope ["_law_tells_here", "_law_tell"] ["_law_tells_here"] (defScope s__law_claims) := ⟨rfl, rfl, rfl, by decide +kernel, rfl, by decide +kernel, by decide +kernel⟩
-- slots: 0 self 1 size 2 rules 3 kept 4 rule
abbrev s_Frame__init : Stmt := clsS 42 0
theorem sc_Frame__init : FnScope ["self", "size", "rules", "kept", "rule"] ["self", "size", "rules"] (defScope s_Frame__init) := ⟨rfl, rfl, rfl, by decide +kernel, rfl, by decide +kernel, by decide +kernel⟩
section
variable {P : Program} {w : World} {K : PySem.W.Frag} {mg : Str → Option Value} {base : Heap}
def spParts (K : PySem.W.Frag) : Sp := fun vs H Q _ => ∃ (me : Addr) (r : Kw.Row), vs = [.ref me] ∧ ClmAt K H me r ∧ ∀ H' t, Same H H' → H t = none → H' t = some (.tup (row5 r)) → Q (.ref t) H'
theorem ok_parts (D : DkM K "Claim" "parts" "Claim.parts" s_Claim_parts [] []) (M : Meth K (cAt K "Claim") "parts" (He.ma K (cAt K "Claim") "parts")) (C : ClsF K "Claim" claimNames) :
    HasM P w K mg base CX0 1 "Claim" "parts" ["self"] (spParts K) := by
  obtain ⟨fd, F⟩ := D.ex
  have sc := sc_Claim_parts
  have n1 : NoAttr K (cAt K "Claim") "first" := C.no _ (by decide)
  have n2 : NoAttr K (cAt K "Claim") "second" := C.no _ (by decide)
  have n3 : NoAttr K (cAt K "Claim") "low" := C.no _ (by decide)
  have n4 : NoAttr K (cAt K "Claim") "high" := C.no _ (by decide)
  have n5 : NoAttr K (cAt K "Claim") "weight" := C.no _ (by decide)
  refine ⟨fd, C.cls, M, F.ok sc (fun vs H Q E h => ?_) (fun cdv A outer s H vs Q E hr h => ?_), F.bindsN (ps := ["self"]) fun _ _ _ _ _ _ us hl => match us, hl with | [_], _ => rfl⟩
  · obtain ⟨me, r, rfl, _⟩ := h
    rfl
  · obtain ⟨me, r, rfl, ⟨dx, hm⟩, q⟩ := h
    suffices z : ∃ t, PSs (cxOf CX0 P w K mg base ["self"] "Claim.parts" (defScope s_Claim_parts) (He.ma K (cAt K "Claim") "parts") cdv A outer s H E).nox (defBody s_Claim_parts) t ∧ t { nx := fun _ H' => Q .non H', rt := Q } (start ["self"] [.ref me]) H by
      obtain ⟨t, h1, h2⟩ := z
      exact ⟨t, h1.nox, h2⟩
    refine ⟨_, (pss_one (ps_ret (pe_tup (pa_cons (pe_fldK (K := K) rfl (pv 0) rfl) (pa_cons (pe_fldK (K := K) rfl (pv 0) rfl) (pa_cons (pe_fldK (K := K) rfl (pv 0) rfl) (pa_cons (pe_fldK (K := K) rfl (pv 0) rfl) (pa_cons (pe_fldK (K := K) rfl (pv 0) rfl) pa_nil)))))))), ?_⟩
    walk_at "sx"
    refine q_fld rfl hm C.cls n1 rfl ?_
    walk_at "sx"
    refine q_fld rfl hm C.cls n2 rfl ?_
    walk_at "sx"
    refine q_fld rfl hm C.cls n3 rfl ?_
    walk_at "sx"
    refine q_fld rfl hm C.cls n4 rfl ?_
    walk_at "sx"
    refine q_fld rfl hm C.cls n5 rfl ?_
    walk_at "sx"
    exact ⟨line_le (n := 5) (by decide), fun t nt => q _ t (same_upd nt) nt upd_same⟩
def spClaimRows (K : PySem.W.Frag) : Sp := fun vs H Q _ => ∃ (a : Addr) (R : Nat → Kw.Row) (n : Nat), vs = [.ref a] ∧ ClsAt K H a R n ∧ n ≤ 1000 ∧ ∀ H' o, Same H H' → H o = none → RowsAt K H' o R n → Q (.ref o) H'
theorem ok_claim_rows (D : Dk K mg "claim_rows" s_claim_rows) (C : ClsF K "Claim" claimNames) : Has P w K mg base CX0 1 "claim_rows" ["claims"] (spClaimRows K) := by
  have sc := sc_claim_rows
  have n1 : NoAttr K (cAt K "Claim") "first" := C.no _ (by decide)
  have n2 : NoAttr K (cAt K "Claim") "second" := C.no _ (by decide)
  have n3 : NoAttr K (cAt K "Claim") "low" := C.no _ (by decide)
  have n4 : NoAttr K (cAt K "Claim") "high" := C.no _ (by decide)
  have n5 : NoAttr K (cAt K "Claim") "weight" := C.no _ (by decide)
  refine D.has0 sc (fun vs H Q E h => ?_) (fun _ _ _ _ _ _ us hl => match us, hl with | [_], _ => rfl) (fun f cdv A outer s H vs Q E hr h => ?_)
  · obtain ⟨a, R, n, rfl, _⟩ := h
    rfl
  · obtain ⟨a, R, n, rfl, ⟨xs, hx, hc⟩, hn, q⟩ := h
    refine ⟨_, (pss_one (ps_ret (pe_lc (own := [("claim", 1)]) (g := gName 1) (tt := tYes) rfl sc.nd (pi_or (pi_listK (K := K) rfl (pv 0)) (pi_tupK (K := K) rfl (pv 0))) (blkOk_by (by kernel_rfl)) (fun _ _ _ _ _ => (pg_name (i := 1) sc.nd rfl (Or.inl rfl))) (fun _ _ _ _ _ => pts_nil) (fun _ _ _ _ _ => (pe_tup (pa_cons (pe_fldK (K := K) rfl (pv 1) rfl) (pa_cons (pe_fldK (K := K) rfl (pv 1) rfl) (pa_cons (pe_fldK (K := K) rfl (pv 1) rfl) (pa_cons (pe_fldK (K := K) rfl (pv 1) rfl) (pa_cons (pe_fldK (K := K) rfl (pv 1) rfl) pa_nil)))))))))), ?_⟩
    have st : ∀ (o : Addr) (i : Nat) (x : V) (H' : Hp) (ys : List V), H o = none → xs[i]? = some x → Same H H' → H' o = some (.lst ys) → Tups K H' row5 R i ys→
        tTup (tCons (tFld K (tVar 1) "first") (tCons (tFld K (tVar 1) "second") (tCons (tFld K (tVar 1) "low") (tCons (tFld K (tVar 1) "high") (tCons (tFld K (tVar 1) "weight") tNil))))) [some (.ref a), some x] H' fun y H4 => ∃ acc, H4 o = some (.lst acc) ∧ acc.length < sizeLine ∧ ∃ ys2, Same H (upd H4 o (.lst (acc ++ [y]))) ∧ (upd H4 o (.lst (acc ++ [y]))) o = some (.lst ys2) ∧ Tups K (upd H4 o (.lst (acc ++ [y]))) row5 R (i + 1) ys2 := by
      intro o i x H' ys no hx s1 h1 t1
      obtain ⟨hi, p, rfl, dx, hm⟩ := hc.get hx
      have hm := s1 _ _ hm
      walk_at "sx"
      refine q_fld rfl hm C.cls n1 rfl ?_
      walk_at "sx"
      refine q_fld rfl hm C.cls n2 rfl ?_
      walk_at "sx"
      refine q_fld rfl hm C.cls n3 rfl ?_
      walk_at "sx"
      refine q_fld rfl hm C.cls n4 rfl ?_
      walk_at "sx"
      refine q_fld rfl hm C.cls n5 rfl ?_
      walk_at "sx"
      refine ⟨line_le (n := 5) (by decide), fun t nt => ?_⟩
      have s2 : Same H' (upd H' t (.tup (row5 (R i)))) := same_upd nt
      have hto : t ≠ o := (ne_of_none h1 nt).symm
      have k3 : Keep (· = o) H' (upd (upd H' t (.tup (row5 (R i)))) o (.lst (ys ++ [.ref t]))) := (Same.keep s2).upd rfl
      refine ⟨ys, s2 _ _ h1, line_of (by rw [t1.1]; omega), _, (s1.trans s2).mut' no, upd_same, ?_, fun k hk => ?_⟩
      · rw [List.length_append, t1.1]
        rfl
      · by_cases e : k = i
        · subst e
          refine ⟨t, ?_, SqT.of ?_⟩
          · rw [← t1.1, List.getElem?_append_right (Nat.le_refl _), Nat.sub_self]
            rfl
          · rw [upd_ne hto, upd_same]
        · obtain ⟨p1, e1, t2⟩ := t1.2 k (by omega)
          refine ⟨p1, ?_, k3.sqt (fun b e => by rw [e]; exact ⟨_, h1⟩) t2⟩
          rw [List.getElem?_append_left (by rw [t1.1]; omega)]
          exact e1
    have en : xs.length = n := hc.1
    walk_at "sx"
    rcases hx with hx | hx
    · refine q_lc_l (q_lcL rfl hx fun o no => ⟨fun i H' => ∃ ys, Same H H' ∧ H' o = some (.lst ys) ∧ Tups K H' row5 R i ys, ⟨[], same_upd no, upd_same, rfl, fun k hk => absurd hk (Nat.not_lt_zero _)⟩, ?_, ?_, ?_⟩)
      · rintro i H' hi ⟨ys, s1, _⟩
        exact Same.sql s1 hx
      · rintro i x H' hx1 ⟨ys, s1, h1, t1⟩
        refine q_gname ?_
        refine ⟨wipe1, ?_⟩
        refine q_yes ?_
        refine ift rfl ?_
        exact st o i x H' ys no hx1 s1 h1 t1
      · rintro H' ⟨ys, s1, h1, t1⟩
        rw [en] at t1
        exact q H' o s1 no (t1.rows h1)
    · refine q_lc_r (q_lcT hx (fun Qv qv => ⟨_, rfl, qv⟩) fun o no => ⟨fun i H' => ∃ ys, Same H H' ∧ H' o = some (.lst ys) ∧ Tups K H' row5 R i ys, ⟨[], same_upd no, upd_same, rfl, fun k hk => absurd hk (Nat.not_lt_zero _)⟩, ?_, ?_, ?_⟩)
      · rintro i H' hi ⟨ys, s1, _⟩
        exact Same.sqt s1 hx
      · rintro i x H' hx1 ⟨ys, s1, h1, t1⟩
        refine q_gname ?_
        refine ⟨wipe1, ?_⟩
        refine q_yes ?_
        refine ift rfl ?_
        exact st o i x H' ys no hx1 s1 h1 t1
      · rintro H' ⟨ys, s1, h1, t1⟩
        rw [en] at t1
        exact q H' o s1 no (t1.rows h1)
/-- the law's own: claims of tells -/
def spLawClaims (K : PySem.W.Frag) : Sp := fun vs H Q _ => ∃ (a : Addr) (xs : List V) (R : Nat → Kw.Row) (n : Nat), vs = [.ref a] ∧ SqL K H a xs ∧ Tups K H row5 R n xs ∧ n ≤ 1000 ∧ (∀ i, i < n → ClmOk (R i)) ∧ ∀ H' o ys, Same H H' → H o = none → H' o = some (.lst ys) → Clms K H' R n ys → Q (.ref o) H'
theorem ok__law_claims (D : Dk K mg "_law_claims" s__law_claims) (h_Claim : HasK P w K mg base CX0 1 "Claim" 4 ["weight"] ["self", "first", "second", "low", "high", "weight"] (spClaimI K)) : Has P w K mg base CX0 3 "_law_claims" ["_law_tells_here"] (spLawClaims K) := by
  have sc := sc__law_claims
  refine D.has0 sc (fun vs H Q E h => ?_) (fun _ _ _ _ _ _ us hl => match us, hl with | [_], _ => rfl) (fun f cdv A outer s H vs Q E hr h => ?_)
  · obtain ⟨a, xs, R, n, rfl, _⟩ := h
    rfl
  · obtain ⟨a, xs, R, n, rfl, hx, ht, hn, hok, q⟩ := h
    refine ⟨_, (pss_one (ps_ret (pe_lc (own := [("_law_tell", 1)]) (g := gName 1) (tt := tYes) rfl sc.nd (pi_listK (K := K) rfl (pv 0)) (blkOk_by (by kernel_rfl)) (fun _ _ _ _ _ => (pg_name (i := 1) sc.nd rfl (Or.inl rfl))) (fun _ _ _ _ _ => pts_nil) (fun _ _ _ _ _ => (pe_hasK (K := K) rfl h_Claim (hr.mono (by decide)) pass0 (pa_cons (pe_ixT (K := K) rfl (pv 1) pe_int (fun _ _ => rfl)) (pa_cons (pe_ixT (K := K) rfl (pv 1) pe_int (fun _ _ => rfl)) (pa_cons (pe_ixT (K := K) rfl (pv 1) pe_int (fun _ _ => rfl)) (pa_cons (pe_ixT (K := K) rfl (pv 1) pe_int (fun _ _ => rfl)) pa_nil)))) (pk_cons (pe_ixT (K := K) rfl (pv 1) pe_int (fun _ _ => rfl)) pk_nil)))))), ?_⟩
    walk_at "sx"
    refine q_lcL rfl hx fun o no => ⟨fun i H' => ∃ ys, Same H H' ∧ H' o = some (.lst ys) ∧ Clms K H' R i ys, ⟨[], same_upd no, upd_same, rfl, fun k hk => absurd hk (Nat.not_lt_zero _)⟩, ?_, ?_, ?_⟩
    · rintro i H' hi ⟨ys, s1, _⟩
      exact Same.sql s1 hx
    · rintro i x H' hx1 ⟨ys, s1, h1, t1⟩
      obtain ⟨hi, p, rfl, hp⟩ := ht.get hx1
      have hp := Same.sqt s1 hp
      refine q_gname ?_
      refine ⟨wipe1, ?_⟩
      walk_at "sx"
      refine q_ixT hp (atI_nat (j := 0) rfl) ?_
      walk_at "sx"
      refine q_ixT hp (atI_nat (j := 1) rfl) ?_
      walk_at "sx"
      refine q_ixT hp (atI_nat (j := 2) rfl) ?_
      walk_at "sx"
      refine q_ixT hp (atI_nat (j := 3) rfl) ?_
      walk_at "sx"
      refine q_ixT hp (atI_nat (j := 4) rfl) ?_
      walk_at "sx"
      refine ⟨rfl, rfl, fun me dx n1 n2 n3 => ?_⟩
      refine ⟨me, dx, R i, rfl, hok i hi, upd_same, rfl, ?_⟩
      rw [upd_upd]
      have s2 : Same H' (upd (upd H' dx (.own me)) me (.ins (cAt K "Claim") dx (claimF (R i)))) := (same_upd n2).trans (same_upd (by rw [upd_ne n3.symm]; exact n1))
      have hmo : me ≠ o := (ne_of_none h1 n1).symm
      refine ⟨ys, s2 _ _ h1, line_of (by rw [t1.1]; omega), _, (s1.trans s2).mut' no, upd_same, ?_, fun k hk => ?_⟩
      · rw [List.length_append, t1.1]
        rfl
      · by_cases e : k = i
        · subst e
          refine ⟨me, ?_, dx, ?_⟩
          · rw [← t1.1, List.getElem?_append_right (Nat.le_refl _), Nat.sub_self]
            rfl
          · rw [upd_ne hmo, upd_same]
        · obtain ⟨p1, e1, dx1, t2⟩ := t1.2 k (by omega)
          refine ⟨p1, ?_, dx1, ?_⟩
          · rw [List.getElem?_append_left (by rw [t1.1]; omega)]
            exact e1
          · rw [upd_ne (fun z => by rw [z, h1] at t2; cases t2)]
            exact s2 _ _ t2
    · rintro H' ⟨ys, s1, h1, t1⟩
      rw [ht.1] at t1
      exact q H' o ys s1 no h1 t1
/-! ### Frame -/
structure RulOk (n k : Nat) (R : Nat → Kw.Row) : Prop where
  n1 : 1 ≤ n
  n16 : n ≤ 16
  k60 : k ≤ 60
  st : ∀ i, i < k → Stands n (R i)
  tree : Tree n k R
  pot : ∃ x, Kw.Pot (rArcs R k) x
def frameNames : List Str := ["size", "rules"]
def frameF (n : Nat) (t : Addr) : List (Str × V) := [("size", .int n), ("rules", .ref t)]
def spFrameI (K : PySem.W.Frag) : Sp := fun vs H Q _ => ∃ (me dx a : Addr) (xs : List V) (n k : Nat) (R : Nat → Kw.Row), vs = [.ref me, .int n, .ref a] ∧ H me = some (.ins (cAt K "Frame") dx []) ∧ SqL K H a xs ∧ Tups K H row4 R k xs ∧ RulOk n k R ∧
  ∀ H' t, Keep (· = me) H H' → H t = none → H' me = some (.ins (cAt K "Frame") dx (frameF n t)) → H' t = some (.tup xs) → Q .non H'
theorem rArcs_lt {n : Nat} {R : Nat → Kw.Row} : ∀ {k : Nat}, (∀ i, i < k → (R i).f < n ∧ (R i).s < n) → ∀ a ∈ rArcs R k, a.s < n ∧ a.e < n
  | 0, _, a, h => nomatch h
  | k + 1, hl, a, h => by
    unfold rArcs at h
    rcases List.mem_append.mp h with h | h
    · exact rArcs_lt (k := k) (fun i hi => hl i (by omega)) a h
    · obtain ⟨h1, h2⟩ := hl k (by omega)
      unfold ruArcs at h
      rcases List.mem_cons.mp h with rfl | h
      · exact ⟨h1, h2⟩
      · rw [List.mem_singleton.mp h]
        exact ⟨h2, h1⟩
theorem ok_Frame {t1 t2 : Tok} (D : DkM K "Frame" "__init__" "Frame.__init__" s_Frame__init [] []) (M : Mk K (cAt K "Frame") (He.ma K (cAt K "Frame") "__init__")) (C : ClsF K "Frame" frameNames) (gm : mg "Frame" = some (.ref (cAt K "Frame")))
    (g_MOST_NODES : mg "MOST_NODES" = some (.int 16 t1)) (g_MOST_RULES : mg "MOST_RULES" = some (.int 60 t2)) (fr : Fr mg) (h_as_tuples : Has P w K mg base CX0 1 "as_tuples" ["rows"] (spTups K)) (h_rule_stands : Has P w K mg base CX0 1 "rule_stands" ["size", "rule"] (spStands K))
    (h_all_connected : Has P w K mg base CX0 1 "all_connected" ["size", "rules"] (spConn K)) (h_rule_arcs : Has P w K mg base CX0 2 "rule_arcs" ["rules"] (spRuleArcs K)) (h_closure : Has P w K mg base CX0 2 "closure" ["size", "arcs"] (spClosure K)) :
    HasC P w K mg base CX0 3 "Frame" ["self", "size", "rules"] (spFrameI K) := by
  obtain ⟨fd, F⟩ := D.ex
  have sc := sc_Frame__init
  have n1 : NoAttr K (cAt K "Frame") "size" := C.no _ (by decide)
  have n2 : NoAttr K (cAt K "Frame") "rules" := C.no _ (by decide)
  refine ⟨fd, M, F.ok sc (fun vs H Q E h => ?_) (fun cdv A outer s H vs Q E hr h => ?_), F.bindsN (ps := ["self", "size", "rules"]) fun _ _ _ _ _ _ us hl => match us, hl with | [_, _, _], _ => rfl, gm⟩
  · obtain ⟨me, dx, a, xs, n, k, R, rfl, _⟩ := h
    rfl
  · obtain ⟨me, dx, a, xs, n, k, R, rfl, hm, ha, ht, rok, q⟩ := h
    suffices z : ∃ t, PSs (cxOf CX0 P w K mg base ["self", "size", "rules", "kept", "rule"] "Frame.__init__" (defScope s_Frame__init) (He.ma K (cAt K "Frame") "__init__") cdv A outer s H E).nox (defBody s_Frame__init) t ∧ t { nx := fun _ H' => Q .non H', rt := Q } (start ["self", "size", "rules", "kept", "rule"] [.ref me, .int n, .ref a]) H by
      obtain ⟨t, h1, h2⟩ := z
      exact ⟨t, h1.nox, h2⟩
    refine ⟨_, (pss_cons (ps_set (i := 3) sc.nd rfl (Or.inl rfl) (pe_has h_as_tuples (hr.mono (by decide)) pass0 (pa_cons (pv 2) pa_nil)))
       (pss_cons (ps_if (pt_not (pt_chain op_le op_le pe_int (pv 1) (pe_globI (by rfl) g_MOST_NODES))) (pss_one ps_never) pss_nil)
       (pss_cons (ps_if (PW.pt (pw_or (pt_cmpR op_gt (pe_callB (id := "len") (c_len (K := K) rfl) (by rfl) fr.len (by decide +kernel) (pa_cons (pv 3) pa_nil)) (pe_globI (by rfl) g_MOST_RULES) (nomark _)) (pw_or1 (pt_not (pt_val (pe_callB (id := "all") (c_all (K := K) rfl rfl) (by rfl) fr.all (by decide +kernel) (pa_cons (pe_lc (own := [("rule", 4)]) (g := gName 4) (tt := tYes) rfl sc.nd (pi_tupK (K := K) rfl (pv 3)) (blkOk_by (by kernel_rfl)) (fun _ _ _ _ _ => (pg_name (i := 4) sc.nd rfl (Or.inl rfl))) (fun _ _ _ _ _ => pts_nil) (fun _ _ _ _ _ => (pe_has h_rule_stands (hr.mono (by decide)) pass0 (pa_cons (pv 1) (pa_cons (pv 4) pa_nil))))) pa_nil))))))) (pss_one ps_never) pss_nil)
       (pss_cons (ps_if (pt_not (pt_val (pe_has h_all_connected (hr.mono (by decide)) pass0 (pa_cons (pv 1) (pa_cons (pv 3) pa_nil))))) (pss_one ps_never) pss_nil)
       (pss_cons (ps_if (pt_cmpR o_isN (pe_has h_closure (hr.mono (by decide)) pass0 (pa_cons (pv 1) (pa_cons (pe_has h_rule_arcs (hr.mono (by decide)) pass0 (pa_cons (pv 3) pa_nil)) pa_nil))) pe_non (nomark _)) (pss_one ps_never) pss_nil)
       (pss_cons (ps_fld (pv 0) (pv 1) rfl)
       (pss_one (ps_fld (pv 0) (pv 3) rfl)))))))), ?_⟩
    have hn1 := rok.n1
    have hn16 := rok.n16
    have hk := rok.k60
    have lt : ∀ i, i < k → (R i).f < n ∧ (R i).s < n := fun i hi => ⟨(rok.st i hi).1, (rok.st i hi).2.1⟩
    walk_at "sx"
    refine ⟨a, xs, R, k, rfl, ha, ht, by omega, fun H1 t s1 nt h1 => ?_⟩
    walk_at "sx"
    refine ift (decide_eq_true (by omega)) ?_
    walk_at "sx"
    refine ifn (fun e => absurd e (by omega)) (fun _ => ?_)
    walk_at "sx"
    refine ⟨t, xs, rfl, .inr (.of h1), ?_⟩
    walk_at "sx"
    rw [ht.1]
    refine ifd (fun e => absurd e (by omega)) (fun _ => ?_)
    walk_at "sx"
    refine q_lcT (.of h1) (fun Qv qv => ⟨_, rfl, qv⟩) fun o no => ⟨fun i H' => i ≤ k ∧ H' = upd H1 o (.lst (flV (fun _ => .bl true) i)), ⟨Nat.zero_le _, rfl⟩, ?_, ?_, ?_⟩
    · rintro i H' hi ⟨_, rfl⟩
      exact Same.sqt (same_upd no) (.of h1)
    · rintro i x H' hx ⟨_, rfl⟩
      obtain ⟨hi, p, rfl, hp⟩ := ht.get hx
      have hp := Same.sqt (s1.trans (same_upd (o := .lst (flV (fun _ => .bl true) i)) no)) hp
      refine q_gname ?_
      refine ⟨wipe1, ?_⟩
      walk_at "sx"
      refine ⟨n, p, R i, rfl, hp, rok.st i hi, ?_⟩
      refine ⟨_, upd_same, line_of (by rw [flV_len]; omega), hi, ?_⟩
      rw [upd_upd]
      show _ = upd H1 o (.lst (flV (fun _ => .bl true) (i + 1)))
      rw [← flV_snoc]
    · rintro H2 ⟨_, rfl⟩
      rw [ht.1]
      have s2 : Same H1 (upd H1 o (.lst (flV (fun _ => .bl true) k))) := same_upd no
      have ho : (upd H1 o (.lst (flV (fun _ => .bl true) k))) o = some (.lst (flV (fun _ => .bl true) k)) := upd_same
      generalize upd H1 o (.lst (flV (fun _ => .bl true) k)) = H2 at s2 ho
      walk_at "sx"
      refine ⟨o, (List.range k).map fun _ => true, rfl, .of ?_, ?_⟩
      · rw [ho]
        unfold flV
        rw [List.map_map]
        rfl
      rw [all_of fun i hi => rfl]
      walk_at "sx"
      refine ⟨n, k, t, xs, R, rfl, .of (s2 _ _ h1), ht.same (s1.trans s2), by omega, lt, rok.tree, fun H3 s3 => ?_⟩
      walk_at "sx"
      have s03 := (s1.trans s2).trans s3
      refine ⟨t, xs, R, k, rfl, .of (s3 _ _ (s2 _ _ h1)), ht.same s03, by omega, fun i hi => ?_, fun H4 ar as s4 nar h4 v4 => ?_⟩
      · obtain ⟨a, b, e1, e2, _⟩ := (rok.st i hi).2.2.2
        exact ⟨a, b, e1, e2⟩
      walk_at "sx"
      refine ⟨n, ar, as, rArcs R k, rfl, by omega, h4, v4, rArcs_lt lt, rok.pot, fun H5 tb rs s5 ntb nrs t5 => ?_⟩
      have s05 := (s03.trans s4).trans s5
      walk_at "sx"
      refine q_sfld rfl rfl (s05 _ _ hm) C.cls n1 (ln_lt ln0 (by decide)) ?_
      walk_at "sx"
      refine q_sfld rfl rfl upd_same C.cls n2 (ln_lt (ln_put ln0) (by decide)) ?_
      rw [upd_upd]
      have k5 : Keep (· = me) H (upd H5 me (.ins (cAt K "Frame") dx (frameF n t))) := (Same.keep s05).upd rfl
      have tme : t ≠ me := (ne_of_none hm nt).symm
      refine q _ t k5 nt upd_same ?_
      rw [upd_ne tme]
      exact s5 _ _ (s4 _ _ (s3 _ _ (s2 _ _ h1)))
end
end Kt

namespace Kt
open PySem PySem.Spec PyProof.Rows L2
abbrev s_NoSuchNode__init : Stmt := clsS 5 0
open PySem.W PySem.Calls
section
variable {P : Program} {w : World} {K : PySem.W.Frag} {mg : Str → Option Value} {base : Heap}
/-- what of the text the class must have that says super().__init__ -/
structure SupF (P : Program) (K : PySem.W.Frag) (C f cc : Addr) (fd : FuncData) : Prop where
  ex : ∃ (oc doc pm ct : Value) (od an : Option Addr) (osl : Array (Option Value)) (cda : Addr) (bm : List Value) (cd : ClassData) (oD : Obj),
    fd = ksFn "__init__" "NoSuchNode.__init__" (defArgs s_NoSuchNode__init) (defBody s_NoSuchNode__init) (defScope s_NoSuchNode__init) .none .none doc pm an (.ref cda) ct cc ∧ K.lookup f = some ⟨oc, od, .func fd, osl⟩ ∧ codeIn K (.ref cda) "NoSuchNode.__init__" = true ∧
    (∃ (ccl : Value) (cdd : Option Addr) (vs : Array Value) (ccs : Array (Option Value)) (file : Str) (tf : Tok), K.lookup cda = some ⟨ccl, cdd, .fields vs, ccs⟩ ∧ vs[2]? = some (.str file tf) ∧ ((P.main.file : Str) == file) = true) ∧
    (∃ (cl : Value) (cld : Option Addr) (csl : Array (Option Value)), K.lookup cc = some ⟨cl, cld, .cell (some (.ref C)), csl⟩) ∧ clsIn K C = some cd ∧ K.lookup C = some oD ∧ oD.data = .cls cd ∧
    alongIn K "__init__" ((cd.mro.dropWhile (· != .ref C)).drop 1) = some (some (.builtin "ValueError.__init__"))
  sub : mroIn K C (.ref C) = some true
  isV : subIn K (.ref C) (.type "ValueError") = some true
  third : nsIn K cStatics "thirdparty.any" = some none
  top : (P.main.scope.names.lookup ("super" : Str)).isSome = false
def cxS (P : Program) (w : World) (K : PySem.W.Frag) (mg : Str → Option Value) (base : Heap) (f : Addr) (cd : Value) (cc : Addr) (A : Around) (outer : List Env) (s : Shared) (H : Hp) (xe : Value → Shared → Prop) : Cx where
  prog := P
  w := w
  K := K
  mg := mg
  base := base
  A := A.deeper (ksEnv "NoSuchNode.__init__" (defScope s_NoSuchNode__init) s.heap.objs.size f cd cc)
  N := ["self", "index"]
  s_0 := s
  H_0 := H
  env := ksEnv "NoSuchNode.__init__" (defScope s_NoSuchNode__init) s.heap.objs.size f cd cc
  outer := outer
  stack := ksEnv "NoSuchNode.__init__" (defScope s_NoSuchNode__init) s.heap.objs.size f cd cc :: outer
  ex := []
  calm := true
  fn := fun _ => false
  pn := []
  xe := xe
theorem look1 {x y : Str} {a c : Addr} (h : List.lookup x [(y, a)] = some c) : x = y ∧ c = a := by
  by_cases e : x = y
  · subst e
    simp [List.lookup] at h
    exact ⟨rfl, h.symm⟩
  · have e' : (x == y) = false := by simpa using e
    simp [List.lookup, e'] at h
theorem sc_free {x : Str} {k : NameKind} (h : (defScope s_NoSuchNode__init).names.lookup x = some k) (hk : k = .cell ∨ k = .free) : x = ("__class__" : Str) := by
  have hm := PySem.mem_of_lookup h
  have all : ∀ y ∈ (defScope s_NoSuchNode__init).names, (y.2 = .cell ∨ y.2 = .free) → y.1 = ("__class__" : Str) := by decide +kernel
  exact all _ hm hk
theorem inv_S {f cc : Addr} {cd cl v0 : Value} {cld : Option Addr} {csl : Array (Option Value)} {A : Around} {outer : List Env} {s : Shared} {H : Hp} {xe : Value → Shared → Prop} {h0 : Heap} {t : Nat} {v1 v2 : V} {u1 u2 : Value} (hd : A.handled = none) (e0 : Env0 P w K mg base A outer s H)
    (hcc : K.lookup cc = some ⟨cl, cld, .cell (some v0), csl⟩) (r1 : RelV v1 u1) (r2 : RelV v2 u2) (hn : h0.Ns s.heap.objs.size (fun x => ((["self", "index"] : List Str).zip [u1, u2]).reverse.lookup x)) (k : ∀ b o, s.heap.get? b = some o → h0.get? b = some o) :
    Inv (cxS P w K mg base f cd cc A outer s H xe) [] [some v1, some v2] H { s with heap := h0, toks := t } := by
  have noA : ∀ b : Addr, b ∉ (cxS P w K mg base f cd cc A outer s H xe).ex := fun b z => absurd (show b ∈ ([] : List Addr) from z) (by simp)
  have hb := e0.mod.kin _ _ hcc
  refine ⟨⟨e0.mod, rfl, rfl, rfl, Nat.le_refl _, fun y z c h1 h2 => ?_, fun y hy => ?_, fun y c h _ => absurd h (by simp [cxS]), fun _ => hd, Around.frames_deeper e0.frames, .inr ⟨rfl, rfl⟩, fun b z => absurd z (noA b), e0.bs, e0.bsz, fun b _ _ => noA b, fun b z => absurd z (noA b), e0.funs, e0.frf⟩,
    rfl, e0.bare, Un.kept k, ⟨_, hn, fun i y v h1 h2 h3 => ?_⟩, fun y c h => ?_, e0.hok.fresh (Nat.le_refl _), fun y c h => ?_, fun p hp => absurd (show p ∈ ([] : List (Addr × Obj)) from hp) (by simp), e0.hok.kept k, rfl⟩
  · rw [(look1 h1).1, (look1 h2).1]
  · have hy' : y = ("__class__" : Str) := by
      rcases hy with hy | hy
      · exact sc_free hy (.inl rfl)
      · exact sc_free hy (.inr rfl)
    subst hy'
    exact ⟨cc, rfl⟩
  · match i, h1, h2 with
    | 0, h1, h2 =>
      cases h1
      cases h2
      exact ⟨u1, r1, .inl ⟨rfl, rfl⟩⟩
    | 1, h1, h2 =>
      cases h1
      cases h2
      exact ⟨u2, r2, .inl ⟨rfl, rfl⟩⟩
    | i + 2, h1, h2 => cases h2
  · rw [(look1 h).2]
    exact ⟨_, _, k _ _ (e0.bs _ _ hb).1, rfl⟩
  · rw [(look1 h).2]
    exact (e0.bs _ _ hb).2

theorem call_mw {prog : Program} {w : World} {A : Around} {E : Value → Shared → Prop} {h : Heap} {g : Array GenState} {d : Drawn} {t : Nat} {os : OsState} {u e t0 C N : Addr} {nm q : Str} {bs bm : List Value} {hdct : Bool} {sn : List Str} {sub : List Value} {ab : Bool} {col : Option Bool} {dd : Option Addr} {k0 k1 k2 k3 k5 : Option Value} {rest : List Value} {Q : Value → Shared → Prop}
    (hC : h.get? C = some (excClassObj nm q C N bs bm hdct sn sub ab col dd k0 k1 k2 k3 k5 "ValueError.__new__")) (he : h.get? e = some (excObj C t0 none .none)) (hu : h.get? u = some (kxs_mw "ValueError.__init__" e)) (hrest : rest.length ≤ sizeLine)
    (hq : ∀ h', (∀ b o, b ≠ e → h.get? b = some o → h'.get? b = some o) → h'.get? e = some (excObj C h.objs.size none .none) → Q .none ⟨h', g, d, t, os⟩) :
    wpAny (model prog w) A (call (.ref u) rest) Q E ⟨h, g, d, t, os⟩ := by
  refine wpAny_call (codeAny_of_tree ?_)
  show wpAny _ A.in1 (callAny (.ref u) ⟨rest, []⟩) _ _ _
  simp only [callAny]
  refine wpAny_bind (wpAny_load hu ?_)
  simp only [kxs_mw, show (Value.type "method-wrapper" == Value.type "method" || Value.type "method-wrapper" == Value.type "builtin_function_or_method" || Value.type "method-wrapper" == Value.type "method-wrapper") = true by decide, if_true]
  refine KFB.if_so (by decide) ?_
  refine wpAny_bind (check_bound_init F.excBase_ValueError.toExcCallFacts hC he rfl ?_)
  refine wpAny_bind (wpAny_pure (wpAny_pure ?_))
  refine ⟨plainId_quiet F.excBase_ValueError.init.plain _, codeAny_builtin F.excBase_ValueError.initEntry ?_⟩
  exact exc_init_tree (cls := .ref C) (t0 := t0) (dv := none) (c2 := .none) (c3 := .none) (b4 := .bool false) he hrest fun h' k e' _ => hq h' k e'
theorem callWith_mw {M : Model} {A : Around} {E : Value → Shared → Prop} {s : Shared} {pos : Pos} {u x : Addr} {i : String} {env : Env} {e : Expr} {rest : List Expr} {Q : Value → Shared → Prop}
    (h : wpAny M A (spliced (backTo pos (starEach (e :: rest) env))) (fun vs s₁ => KxsAt i u x s₁.heap ∧ wpAny M A (call (.ref u) vs) Q E s₁) E s)
    (he : starEach (e :: rest) env = (false, eval e env) :: starEach rest env := by rfl) (hplain : (backTo pos (starEach rest env)).any (·.1) = false := by rfl) :
    wpAny M A (callWith pos (.ref u) [] (backTo pos (starEach (e :: rest) env)) []) Q E s := by
  rw [he] at h ⊢
  refine kxs_callWith (i := i) (x := x) (by show (false || (backTo pos (starEach rest env)).any (·.1)) = false; rw [hplain]; rfl) ?_
  exact evalArgs_plain h
/-- self, index: the exception has its field -/
def spNsI (K : PySem.W.Frag) : Sp := fun vs H Q _ => ∃ (a C : Addr) (i : Nat), vs = [.ref a, .int i] ∧ C = cAt K "NoSuchNode" ∧ i < 1000 ∧ H a = some (exo a C none) ∧ ∀ d, H d = none → d ≠ a → Q .non (upd (upd H d (exd d [("index", .int i)])) a (exo a C (some d)))
theorem str_len : ∀ i : Nat, i < 1000 → (toString (i : Int) : Str).length ≤ 3 := by decide +kernel
theorem ok_NoSuch_init {f cc : Addr} {fd : FuncData} (fr : Fr mg) (T : OexC K (cAt K "NoSuchNode")) (S : SupF P K (cAt K "NoSuchNode") f cc fd) (hno : findIn K (.ref (cAt K "NoSuchNode")) "index" = some none) :
    FnOk P w K mg base CX0 1 f fd ["self", "index"] (spNsI K) := by
  refine ⟨fun vs H Q E h => ?_, fun A outer s H args us vs Q E hr e0 hb r hsp => ?_⟩
  · obtain ⟨a, C, i, rfl, _⟩ := h
    rfl
  obtain ⟨a, C, i, rfl, rfl, hi, ha, q⟩ := hsp
  cases r with
  | cons ra r =>
  cases r with
  | cons rb r =>
  cases r
  rename_i u1 u2
  obtain rfl : u1 = Value.ref a := ra
  obtain ⟨oc, doc, pm, ct, od, an, osl, cda, bm0, cdc, oD, rfl, lk, hcd, ⟨ccl, cdd, fvs, ccs, file, tf, hco, hvs, hfile⟩, ⟨cl, cld, csl, hcc⟩, hcl, hlC, hdC, halong⟩ := S.ex
  have KX : K.In s.heap := e0.mod.kin.keeps fun b o e => (e0.bs b o e).1
  have lim : s.heap.NoLimit := e0.mod.nolimit.keeps fun b o e => (e0.bs b o e).1
  refine ks_codeAny_call_defAt hr.depth (KX _ _ lk) rfl lim (codeRec_of KX hcd) rfl hb (show ∀ x ∈ (defScope s_NoSuchNode__init).names, x.2 ≠ .cell by decide +kernel) (fun y hy => ?_) (fun h₀ hns hk => ?_)
  · rcases List.mem_cons.mp hy with rfl | hy
    · rfl
    · rw [List.mem_singleton.mp hy]
      rfl
  have I : ∀ (xe : Value → Shared → Prop) (t : Nat), Inv (cxS P w K mg base f (.ref cda) cc A outer s H xe) [] [some (.ref a), some (.int i)] H { s with heap := h₀, toks := t } := fun xe t => inv_S hr.hd e0 hcc rfl rb hns hk
  refine ks_wpAt_execs_cons (ks_wpAt_Expr_any (ks_wpAt_MethodCall ?_))
  refine ks_wpAt_super_base rfl rfl (by decide) rfl ((I (fun _ _ => True) 0).kIn _ _ lk) rfl rfl rfl ((I (fun _ _ => True) 0).kIn _ _ hco) rfl hvs hfile S.top ?_
  obtain ⟨mb, hmb, hmb2⟩ := e0.mod.blt
  have kb : ∀ b o, base.get? b = some o → h₀.get? b = some o := fun b o e => hk b o (e0.bs b o e).1
  have K0 : K.In h₀ := KX.keeps hk
  refine ks_loadName_global rfl rfl (Calls.loadGlobal_builtin (e0.mod.glob.keeps kb) fr.super (hmb.keeps kb) ((hmb2 "super" (by decide)).trans (by boot_by_name)) ⟨rfl, ?_⟩)
  refine wpAny_loadName_free rfl rfl rfl ⟨_, K0 _ _ hcc, rfl⟩ ?_
  refine wpAny_loadName_local rfl rfl hns rfl ?_
  refine ks_wpAny_isType_cls (K0 _ _ hlC) hdC ⟨rfl, ?_⟩
  obtain ⟨t1, ho⟩ := exo_at (e0.hok.kept hk) ha
  refine ks_wpAny_call_super (K0 _ _ hlC) hdC ho rfl (fun c z => by cases z) (looks_mroIn K0 S.sub) (fun h1 e1 k1 => ?_)
  have K1 : K.In h1 := K0.keeps k1
  obtain ⟨nm, qn, N, bs, bm, sn, sub, ab, col, dd, k0, k2, k3, k4, k5, hC, hbm⟩ := T.cls
  have ho1 := k1 _ _ ho
  have hneq : a ≠ cAt K "NoSuchNode" := fun z => by
    rw [z] at ho
    have := K0 _ _ hlC
    rw [ho] at this
    cases this
    cases hdC
  have hI : Looks (model P w) h1 (isInstance (.ref a) (.type "ValueError")) true := (show InstAt h1 a _ _ none from ⟨ho1, rfl, rfl, trivial⟩).type.andThen (looks_subIn K1 S.isV)
  refine kxs_getMethod kxs_ValueError e1 (looks_opaque K1 S.third) (l₀ := cdc.mro) (fun A Q E s k q => wpAny_bind ((looks_clsIn K1 hcl) A _ E s k (wpAny_pure q))) rfl K1 halong hI hneq rfl ?_
  have k2' : ∀ b o, h1.get? b = some o → (h1.push (kxs_mw "ValueError.__init__" a)).get? b = some o := fun b o e => Heap.get?_push_of_some _ e
  have hu : (h1.push (kxs_mw "ValueError.__init__" a)).get? h1.objs.size = some (kxs_mw "ValueError.__init__" a) := Heap.get?_push_at rfl rfl
  have go : ∀ (xe : Value → Shared → Prop) (t : Nat), Inv (cxS P w K mg base f (.ref cda) cc A outer s H xe) [(h1.objs.size, kxs_mw "ValueError.__init__" a)] [some (.ref a), some (.int i)] H { s with heap := h1.push (kxs_mw "ValueError.__init__" a), toks := t } := fun xe t => by
    have J := (I xe t).kept (t' := t) k1
    refine ((J.kept (t' := t) k2').pins_of fun p hp => ?_)
    rw [List.mem_singleton.mp hp]
    exact ⟨hu, J.hok.fresh (Nat.le_refl _), Nat.ne_of_gt J.lt, J.nofs (Nat.le_refl _), fun v z => by cases z⟩
  refine callWith_mw (i := "ValueError.__init__") (x := a) ?_
  refine thn (PA.run (X := cxS P w K mg base f (.ref cda) cc A outer s H _) (pa_cons (pe_op op_add_str pe_str (pe_callTy (T := "str") call_str_int (by rfl) fr.str (by decide +kernel) (pa_cons (pv 1) pa_nil))) pa_nil) _ _ _ _ _ (fun vs H1 => vs.length = 1 ∧ H1 = H) (go _ _) ?_) fun us s1 ⟨vs, H1, I1, r1, ev, eH⟩ => ?_
  · refine q_cons ?_
    refine q_op ?_
    refine q_c ?_
    refine q_cb ?_
    refine q_cons ?_
    refine q_var rfl ?_
    refine q_nil ?_
    refine ⟨i, rfl, Nat.lt_of_le_of_lt (Nat.log2_le_self _) (by rw [Int.natAbs_natCast]; omega), _, _, rfl, rfl, ?_, rfl, rfl⟩
    exact Nat.le_trans (Nat.add_le_add_left (str_len i hi) _) (line_le (by decide))
  · subst eH
    have hpin := (I1.pin _ (List.mem_append_right _ List.mem_cons_self)).1
    refine ⟨hpin, ?_⟩
    have hul : us.length = 1 := by
      rw [← Paired.length r1]
      exact ev
    obtain ⟨t2, ho3⟩ := exo_at I1.hok ha
    obtain ⟨hp3, g3, d3, tk3, os3⟩ := s1
    refine call_mw (I1.kIn _ _ hC) ho3 hpin (by rw [hul]; exact line_le (by decide)) fun h' k e' => ?_
    have J := I1.write (t' := tk3) (x := a) (e := a) (o := exo a (cAt K "NoSuchNode") none) (by rw [ha]; exact True.intro) (.inl rfl) k ⟨_, e'⟩ (exo_ok e')
    have eu : upd H1 a (exo a (cAt K "NoSuchNode") none) = H1 := by
      funext b
      by_cases hb : b = a
      · rw [hb, upd_same, ha]
      · rw [upd_ne hb]
    rw [eu] at J
    refine wpAt_of_wpAny ?_
    refine wpAny_mono ((pss_one (ps_ost (pv 0) (pv 1))).run _ _ _ _ { nx := fun _ H' => Q .non H', rt := Q } J ⟨.int i, rfl, .ref a, rfl, a, _, rfl, T, hno, .inl ⟨ha, fun dx n ne => q dx n ne⟩⟩) (fun fl s' hs => ?_) fun e s' hs => hs
    cases fl with
    | ret u =>
      obtain ⟨v, σ', H', J, rv, q⟩ := hs
      exact ⟨v, H', J.os, J.bare, J.base, J.hok, rv, q⟩
    | next =>
      obtain ⟨σ', H', J, q⟩ := hs
      exact ⟨.non, H', J.os, J.bare, J.base, J.hok, rfl, q⟩
    | brk =>
      obtain ⟨_, _, _, q⟩ := hs
      exact False.elim q
    | cont =>
      obtain ⟨_, _, _, q⟩ := hs
      exact False.elim q
end
end Kt

namespace Kt
open PySem PySem.Spec PyProof.Rows L2
local macro_rules
  | `(tactic| walk_at "sx") => `(tactic| repeat (first
    | with_reducible refine q_seq ?_ | with_reducible refine q_par ?_ | with_reducible refine q_augS ?_ | with_reducible refine q_rev ?_ | with_reducible refine q_yes ?_ | with_reducible refine q_gname ?_ | with_reducible refine q_setG ?_ | with_reducible refine q_ip ?_ | with_reducible refine q_asg ?_ | with_reducible refine q_asgG ?_ | with_reducible refine q_ret ?_ | with_reducible refine q_drop ?_ | with_reducible refine q_if ?_ | with_reducible refine q_next ?_
    | with_reducible refine q_test ?_ | with_reducible refine q_tB ?_ | with_reducible refine q_chain ?_ | with_reducible refine q_andV ?_ | with_reducible refine q_bl ?_ | with_reducible refine q_exint ?_ | ((with_reducible show tAug _ _ _ _ _ _); refine q_aug rfl ?_) | with_reducible refine q_not ?_ | with_reducible refine q_and ?_ | with_reducible refine q_or ?_
    | with_reducible refine q_op ?_ | with_reducible refine q_un ?_ | with_reducible refine q_c ?_ | ((with_reducible show tVar _ _ _ _); refine q_var rfl ?_)
    | with_reducible refine q_i0 ?_ | with_reducible refine q_u ?_ | with_reducible refine q_eq ?_ | with_reducible refine q_ne ?_ | with_reducible refine q_isN ?_ | with_reducible refine q_notN ?_ | with_reducible refine q_min2 ?_ | with_reducible refine q_abs ?_ | with_reducible refine q_int ?_
    | with_reducible refine q_nil ?_ | with_reducible refine q_cons ?_ | with_reducible refine q_tup ?_ | with_reducible refine q_lst ?_ | with_reducible refine q_call ?_ | with_reducible refine q_makeN ?_ | with_reducible refine q_make ?_ | with_reducible refine q_cb ?_
    | ((with_reducible show ite _ _ _); first | refine ift rfl ?_ | refine iff' rfl ?_)))
-- slots: 0 size 1 claims 2 index 3 claim
abbrev s_check_nodes : Stmt := topS 11
theorem sc_check_nodes : FnScope ["size", "claims", "index", "claim"] ["size", "claims"] (defScope s_check_nodes) := ⟨rfl, rfl, rfl, by decide +kernel, rfl, by decide +kernel, by decide +kernel⟩
section
variable {P : Program} {w : World} {K : PySem.W.Frag} {mg : Str → Option Value} {base : Heap}
/-- the class NoSuchNode as a thing that is raised -/
structure HasX (P : Program) (w : World) (K : PySem.W.Frag) (mg : Str → Option Value) (base : Heap) : Prop where
  oex : OexC K (cAt K "NoSuchNode")
  ini : PySem.W.findIn K (.ref (cAt K "NoSuchNode")) "__init__" = some (some (.ref (He.ma K (cAt K "NoSuchNode") "__init__")))
  ty : PySem.W.typeIn K (.ref (He.ma K (cAt K "NoSuchNode") "__init__")) = some (.type "function")
  gl : mg "NoSuchNode" = some (.ref (cAt K "NoSuchNode"))
  fn : ∃ fd, FnOk P w K mg base CX0 1 (He.ma K (cAt K "NoSuchNode") "__init__") fd ["self", "index"] (spNsI K) ∧ Binds K fd ["self", "index"] []
theorem pmk_nsn {X : Cx} {e : Expr} {es : List Expr} {ta : TA} {p pos : Pos} (h : HasX X.prog X.w X.K X.mg X.base) (hr : Room 2 X.A) (ha : PA X (e :: es) ta) (hg : Gl X "NoSuchNode" := by rfl)
    (he : starEach (e :: es) X.env = (false, eval e X.env) :: starEach es X.env := by rfl) (hpl : (backTo pos (starEach es X.env)).any (·.1) = false := by rfl) :
    PMk X (.Call (.Name "NoSuchNode" p) (e :: es) [] pos) (tMkO (cAt X.K "NoSuchNode") (spNsI X.K) [] ta) := by
  obtain ⟨fd, F, b⟩ := h.fn
  exact pmk_oex h.oex h.ini h.ty F hr b .nil pass0 hg h.gl ha (by decide) he hpl
def errD (k : Nat) : HO := .xd [("index", .int k)]
def spCheck (K : PySem.W.Frag) : Sp := fun vs H Q E => ∃ (n m : Nat) (a : Addr) (R : Nat → Kw.Row), vs = [.int n, .ref a] ∧ ClsAt K H a R m ∧ m ≤ 900 ∧
  (((∀ i, i < m → (R i).f < n ∧ (R i).s < n) ∧ ∀ H', Same H H' → Q .non H') ∨ ∃ k, k < m ∧ (∀ i, i < k → (R i).f < n ∧ (R i).s < n) ∧ ¬ ((R k).f < n ∧ (R k).s < n) ∧ ∀ H' d, Same H H' → H' d = some (errD k) → E (.ref (cAt K "NoSuchNode")) (some d) H')
theorem ok_check_nodes (D : Dk K mg "check_nodes" s_check_nodes) (fr : Fr mg) (C : ClsF K "Claim" claimNames) (h_NoSuchNode : HasX P w K mg base) : Has P w K mg base (L2.CX P w) 3 "check_nodes" ["size", "claims"] (spCheck K) := by
  have sc := sc_check_nodes
  have n1 : NoAttr K (cAt K "Claim") "first" := C.no _ (by decide)
  have n2 : NoAttr K (cAt K "Claim") "second" := C.no _ (by decide)
  refine D.has sc (fun vs H Q E h => ?_) (fun _ _ _ _ _ _ us hl => match us, hl with | [_, _], _ => rfl) (fun f cdv A outer s H vs Q E hr h => ?_)
  · obtain ⟨n, m, a, R, rfl, _⟩ := h
    rfl
  · obtain ⟨n, m, a, R, rfl, ⟨xs, hx, hc⟩, hm, q⟩ := h
    refine ⟨_, (pss_one (ps_for (passes_of rfl) rfl (pi_or (pi_enumK (K := K) rfl (by rfl) fr.enumerate (pa_cons (pv 1) pa_nil)) (pi_enumT (K := K) rfl (by rfl) fr.enumerate (pa_cons (pv 1) pa_nil))) (pg_tupK (K := K) (n := 2) rfl rfl (pgs_cons (pg_name (i := 2) sc.nd rfl (Or.inl rfl)) (pgs_cons (pg_name (i := 3) sc.nd rfl (Or.inl rfl)) pgs_nil)))
        (pss_one (ps_if (PW.pt (pw_or (pt_cmpR op_ge (pe_fldK (K := K) rfl (pv 3) rfl) (pv 0) (nomark _)) (pw_or1 (pt_cmpR op_ge (pe_fldK (K := K) rfl (pv 3) rfl) (pv 0) (nomark _))))) (pss_one (ps_raise rfl (takes_of rfl rfl rfl rfl) (pmk_nsn h_NoSuchNode (hr.mono (by decide)) (pa_cons (pv 2) pa_nil)))) pss_nil)))), ?_⟩
    rcases hx with hx | hx
    · refine q_or_l (q_forE rfl ⟨a, xs, rfl, hx, fun i σ H' => ∃ y2 y3, σ = [some (.int n), some (.ref a), y2, y3] ∧ Same H H' ∧ i ≤ m ∧ ∀ j, j < i → (R j).f < n ∧ (R j).s < n, ?_, ?_, ?_, ?_⟩)
      · exact ⟨_, _, rfl, fun _ _ e => e, Nat.zero_le _, fun j z => absurd z (Nat.not_lt_zero _)⟩
      · rintro i σ H' hi ⟨y2, y3, rfl, s1, _⟩
        exact Same.sql s1 hx
      · rintro i x σ H' t hx1 ⟨y2, y3, rfl, s1, him, g⟩ nt
        obtain ⟨hi, p, rfl, dx, hp⟩ := hc.get hx1
        have s2 : Same H (upd H' t (.tup [.int (i : Int), .ref p])) := s1.trans (same_upd nt)
        generalize upd H' t (.tup [.int (i : Int), .ref p]) = H2 at s2
        have hp := s2 _ _ hp
        have bad : ¬ ((R i).f < n ∧ (R i).s < n) → tMkO (cAt K "NoSuchNode") (spNsI K) [] (tCons (tVar 2) tNil) [some (.int n), some (.ref a), some (.int i), some (.ref p)] H2 fun cls d H' => E cls d H' := fun hb => by
          rcases q with ⟨q1, _⟩ | ⟨k, hk, k1, k2, q⟩
          · exact absurd (q1 i hi) hb
          have ek : k = i := by
            rcases Nat.lt_trichotomy k i with z | z | z
            · exact absurd (g k z) k2
            · exact z
            · exact absurd (k1 i z) hb
          subst ek
          refine ⟨.int k, rfl, (show (1 : Nat) ≤ 1000 by decide), fun e ne => ⟨e, _, k, rfl, rfl, by omega, upd_same, fun d nd hde => ⟨rfl, d, [("index", .int k)], upd_same, ?_, ?_, ?_⟩⟩⟩
          · rw [upd_ne hde, upd_same]
          · rw [upd_ne hde] at nd
            exact nd
          · rw [upd_ne hde] at nd
            refine q _ d (fun b o eb => ?_) upd_same
            have hbd : b ≠ d := ne_of_none (s2 _ _ eb) nd
            have hbe : b ≠ e := ne_of_none (s2 _ _ eb) ne
            rw [upd_ne hbd, del_ne hbe, upd_ne hbe, upd_ne hbd, upd_ne hbe]
            exact s2 _ _ eb
        walk_at "sx"
        refine q_fld rfl hp C.cls n1 rfl ?_
        walk_at "sx"
        refine ifd (fun e => ?_) (fun e => ?_)
        · exact bad fun z => absurd z.1 (by omega)
        · walk_at "sx"
          refine q_fld rfl hp C.cls n2 rfl ?_
          walk_at "sx"
          refine ifd (fun e2 => ?_) (fun e2 => ?_)
          · exact bad fun z => absurd z.2 (by omega)
          · walk_at "sx"
            refine ⟨_, _, rfl, s2, hi, fun j hj => ?_⟩
            by_cases z : j = i
            · subst z
              exact ⟨by omega, by omega⟩
            · exact g j (by omega)
      · rintro σ H' ⟨y2, y3, rfl, s1, _, g⟩
        rw [hc.1] at g
        rcases q with ⟨_, q⟩ | ⟨k, hk, k1, k2, q⟩
        · exact q H' s1
        · exact absurd (g k hk) k2
    · refine q_or_r (q_forET rfl ⟨a, xs, rfl, hx, fun i σ H' => ∃ y2 y3, σ = [some (.int n), some (.ref a), y2, y3] ∧ Same H H' ∧ i ≤ m ∧ ∀ j, j < i → (R j).f < n ∧ (R j).s < n, ?_, ?_, ?_, ?_⟩)
      · exact ⟨_, _, rfl, fun _ _ e => e, Nat.zero_le _, fun j z => absurd z (Nat.not_lt_zero _)⟩
      · rintro i σ H' hi ⟨y2, y3, rfl, s1, _⟩
        exact Same.sqt s1 hx
      · rintro i x σ H' t hx1 ⟨y2, y3, rfl, s1, him, g⟩ nt
        obtain ⟨hi, p, rfl, dx, hp⟩ := hc.get hx1
        have s2 : Same H (upd H' t (.tup [.int (i : Int), .ref p])) := s1.trans (same_upd nt)
        generalize upd H' t (.tup [.int (i : Int), .ref p]) = H2 at s2
        have hp := s2 _ _ hp
        have bad : ¬ ((R i).f < n ∧ (R i).s < n) → tMkO (cAt K "NoSuchNode") (spNsI K) [] (tCons (tVar 2) tNil) [some (.int n), some (.ref a), some (.int i), some (.ref p)] H2 fun cls d H' => E cls d H' := fun hb => by
          rcases q with ⟨q1, _⟩ | ⟨k, hk, k1, k2, q⟩
          · exact absurd (q1 i hi) hb
          have ek : k = i := by
            rcases Nat.lt_trichotomy k i with z | z | z
            · exact absurd (g k z) k2
            · exact z
            · exact absurd (k1 i z) hb
          subst ek
          refine ⟨.int k, rfl, (show (1 : Nat) ≤ 1000 by decide), fun e ne => ⟨e, _, k, rfl, rfl, by omega, upd_same, fun d nd hde => ⟨rfl, d, [("index", .int k)], upd_same, ?_, ?_, ?_⟩⟩⟩
          · rw [upd_ne hde, upd_same]
          · rw [upd_ne hde] at nd
            exact nd
          · rw [upd_ne hde] at nd
            refine q _ d (fun b o eb => ?_) upd_same
            have hbd : b ≠ d := ne_of_none (s2 _ _ eb) nd
            have hbe : b ≠ e := ne_of_none (s2 _ _ eb) ne
            rw [upd_ne hbd, del_ne hbe, upd_ne hbe, upd_ne hbd, upd_ne hbe]
            exact s2 _ _ eb
        walk_at "sx"
        refine q_fld rfl hp C.cls n1 rfl ?_
        walk_at "sx"
        refine ifd (fun e => ?_) (fun e => ?_)
        · exact bad fun z => absurd z.1 (by omega)
        · walk_at "sx"
          refine q_fld rfl hp C.cls n2 rfl ?_
          walk_at "sx"
          refine ifd (fun e2 => ?_) (fun e2 => ?_)
          · exact bad fun z => absurd z.2 (by omega)
          · walk_at "sx"
            refine ⟨_, _, rfl, s2, hi, fun j hj => ?_⟩
            by_cases z : j = i
            · subst z
              exact ⟨by omega, by omega⟩
            · exact g j (by omega)
      · rintro σ H' ⟨y2, y3, rfl, s1, _, g⟩
        rw [hc.1] at g
        rcases q with ⟨_, q⟩ | ⟨k, hk, k1, k2, q⟩
        · exact q H' s1
        · exact absurd (g k hk) k2
end
end Kt

namespace Kt
open PySem PySem.Spec PyProof.Rows L2
local macro_rules
  | `(tactic| walk_at "sx") => `(tactic| repeat (first
    | with_reducible refine q_seq ?_ | with_reducible refine q_par ?_ | with_reducible refine q_augS ?_ | with_reducible refine q_rev ?_ | with_reducible refine q_yes ?_ | with_reducible refine q_gname ?_ | with_reducible refine q_setG ?_ | with_reducible refine q_ip ?_ | with_reducible refine q_asg ?_ | with_reducible refine q_asgG ?_ | with_reducible refine q_ret ?_ | with_reducible refine q_drop ?_ | with_reducible refine q_if ?_ | with_reducible refine q_next ?_
    | with_reducible refine q_test ?_ | with_reducible refine q_tB ?_ | with_reducible refine q_chain ?_ | with_reducible refine q_andV ?_ | with_reducible refine q_bl ?_ | with_reducible refine q_exint ?_ | ((with_reducible show tAug _ _ _ _ _ _); refine q_aug rfl ?_) | with_reducible refine q_not ?_ | with_reducible refine q_and ?_ | with_reducible refine q_or ?_
    | with_reducible refine q_op ?_ | with_reducible refine q_un ?_ | with_reducible refine q_c ?_ | ((with_reducible show tVar _ _ _ _); refine q_var rfl ?_)
    | with_reducible refine q_i0 ?_ | with_reducible refine q_u ?_ | with_reducible refine q_eq ?_ | with_reducible refine q_ne ?_ | with_reducible refine q_isN ?_ | with_reducible refine q_notN ?_ | with_reducible refine q_min2 ?_ | with_reducible refine q_abs ?_ | with_reducible refine q_int ?_
    | with_reducible refine q_nil ?_ | with_reducible refine q_cons ?_ | with_reducible refine q_tup ?_ | with_reducible refine q_lst ?_ | with_reducible refine q_call ?_ | with_reducible refine q_makeN ?_ | with_reducible refine q_make ?_ | with_reducible refine q_cb ?_
    | ((with_reducible show ite _ _ _); first | refine ift rfl ?_ | refine iff' rfl ?_)))
-- slots: 0 frame 1 claims 2 hard 3 soft 4 flows
abbrev s_cheapest_table : Stmt := topS 32
theorem sc_cheapest_table : FnScope ["frame", "claims", "hard", "soft", "flows"] ["frame", "claims"] (defScope s_cheapest_table) := ⟨rfl, rfl, rfl, by decide +kernel, rfl, by decide +kernel, by decide +kernel⟩
section
variable {P : Program} {w : World} {K : PySem.W.Frag} {mg : Str → Option Value} {base : Heap}
def cat (R : Nat → Kw.Row) (h : Nat) (S : Nat → Kw.Row) : Nat → Kw.Row := fun i => if i < h then R i else S (i - h)
theorem cat_l {R S : Nat → Kw.Row} {h i : Nat} (hi : i < h) : cat R h S i = R i := if_pos hi
theorem cat_r {R S : Nat → Kw.Row} {h i : Nat} : cat R h S (h + i) = S i := by
  unfold cat
  rw [if_neg (by omega), show h + i - h = i by omega]
theorem RowsAt.congr {H : Hp} {a : Addr} {R R' : Nat → Kw.Row} {n : Nat} (h : RowsAt K H a R n) (e : ∀ i, i < n → R' i = R i) : RowsAt K H a R' n := by
  obtain ⟨vs, h1, h2, h3⟩ := h.ex
  refine ⟨vs, h1, h2, fun i hi => ?_⟩
  rw [e i hi]
  exact h3 i hi
/-- the frame in the heap -/
def FrAt (K : PySem.W.Frag) (H : Hp) (a : Addr) (n h : Nat) (R : Nat → Kw.Row) : Prop := ∃ (dx t : Addr) (xs : List V), H a = some (.ins (cAt K "Frame") dx (frameF n t)) ∧ H t = some (.tup xs) ∧ Tups K H row4 R h xs
theorem FrAt.keep {W : Addr → Prop} {H H' : Hp} {a : Addr} {n h : Nat} {R : Nat → Kw.Row} (f : FrAt K H a n h R) (k : Keep W H H') (l : ∀ b, W b → ∃ xs, H b = some (.lst xs)) : FrAt K H' a n h R := by
  obtain ⟨dx, t, xs, h1, h2, h3, h4⟩ := f
  have nw : ∀ {b o}, H b = some o → (∀ xs, o ≠ .lst xs) → ¬ W b := fun e z w => by
    obtain ⟨ys, e2⟩ := l _ w
    rw [e] at e2
    cases e2
    exact z _ rfl
  refine ⟨dx, t, xs, k _ _ (nw h1 fun _ z => by cases z) h1, k _ _ (nw h2 fun _ z => by cases z) h2, h3, fun i hi => ?_⟩
  obtain ⟨p, e1, e2⟩ := h4 i hi
  exact ⟨p, e1, k.sqt l e2⟩
theorem FrAt.same {H H' : Hp} {a : Addr} {n h : Nat} {R : Nat → Kw.Row} (f : FrAt K H a n h R) (e : Same H H') : FrAt K H' a n h R := f.keep (W := fun _ => False) (fun b o _ x => e b o x) fun b z => z.elim
theorem base_of {n h m : Nat} {R S : Nat → Kw.Row} (rok : RulOk n h R) (rn : ∀ i, i < h → (R i).rm = none) (sok : ∀ i, i < m → ClmOk (S i)) (sn : ∀ i, i < m → (S i).f < n ∧ (S i).s < n) : Kw.Base n h (h + m) (cat R h S) := by
  have sp : ∀ i, i < h + m → (i < h ∧ cat R h S i = R i) ∨ ∃ j, j < m ∧ cat R h S i = S j := fun i hi => by
    by_cases z : i < h
    · exact .inl ⟨z, cat_l z⟩
    · exact .inr ⟨i - h, by omega, by
        have := cat_r (R := R) (S := S) (h := h) (i := i - h)
        rw [show h + (i - h) = i by omega] at this
        exact this⟩
  refine ⟨fun i hi => ?_, Nat.le_add_right _ _, fun i hi => ?_, fun v hv hn => ?_, fun i hi => ?_, rok.n1⟩
  · rcases sp i hi with ⟨z, e⟩ | ⟨j, z, e⟩
    · rw [e]
      exact ⟨(rok.st i z).1, (rok.st i z).2.1⟩
    · rw [e]
      exact sn j z
  · rw [cat_l hi]
    obtain ⟨a, b, e1, e2, _⟩ := (rok.st i hi).2.2.2
    rw [e1, e2]
    exact ⟨rn i hi, (fun z => nomatch z), (fun z => nomatch z)⟩
  · obtain ⟨i, hi, u, hu, h⟩ := rok.tree v hv hn
    exact ⟨i, hi, u, hu, by rw [cat_l hi]; exact h⟩
  · rcases sp i hi with ⟨z, e⟩ | ⟨j, z, e⟩
    · rw [e]
      obtain ⟨a, b, e1, e2, le⟩ := (rok.st i z).2.2.2
      refine ⟨fun c d x y => ?_, fun w hw => ?_⟩
      · rw [e1] at x
        rw [e2] at y
        cases x
        cases y
        exact le
      · rw [rn i z] at hw
        cases hw
    · rw [e]
      obtain ⟨wt, e1, e2, _⟩ := (sok j z).rm
      refine ⟨(sok j z).le, fun w hw => ?_⟩
      rw [e1] at hw
      cases hw
      exact e2
theorem pot_rows {R : Nat → Kw.Row} {x : Nat → Int} : ∀ {k : Nat}, Kw.Pot (rArcs R k) x → ∀ i, i < k → (R i).lo ≠ none → (R i).hi ≠ none → (∀ a, (R i).lo = some a → a ≤ Kw.dif x (R i)) ∧ ∀ b, (R i).hi = some b → Kw.dif x (R i) ≤ b
  | 0, _, i, hi, _, _ => absurd hi (Nat.not_lt_zero _)
  | k + 1, p, i, hi, h1, h2 => by
    unfold rArcs at p
    by_cases z : i = k
    · subst z
      have a1 := p ⟨(R i).f, (R i).s, (R i).hi.getD 0, 0, 0⟩ (List.mem_append_right _ (by unfold ruArcs; exact List.mem_cons_self))
      have a2 := p ⟨(R i).s, (R i).f, -((R i).lo.getD 0), 0, 0⟩ (List.mem_append_right _ (by unfold ruArcs; exact List.mem_cons_of_mem _ List.mem_cons_self))
      dsimp only at a1 a2
      refine ⟨fun a e => ?_, fun b e => ?_⟩
      · rw [e] at a2
        show a ≤ x (R i).s - x (R i).f
        have : (some a).getD 0 = a := rfl
        omega
      · rw [e] at a1
        show x (R i).s - x (R i).f ≤ b
        have : (some b).getD 0 = b := rfl
        omega
    · exact pot_rows (k := k) (fun a ha => p a (List.mem_append_left _ ha)) i (by omega) h1 h2
def spCheap (K : PySem.W.Frag) : Sp := fun vs H Q E => ∃ (fa ca : Addr) (n h m : Nat) (R S : Nat → Kw.Row), vs = [.ref fa, .ref ca] ∧ FrAt K H fa n h R ∧ RulOk n h R ∧ (∀ i, i < h → (R i).rm = none) ∧ ClsAt K H ca S m ∧ m ≤ 100 ∧ (∀ i, i < m → ClmOk (S i)) ∧
  (((∀ i, i < m → (S i).f < n ∧ (S i).s < n) ∧ ∀ H' tb rs F, Same H H' → H tb = none → (∀ i, i < n → H (rs i) = none) → Kw.Done (h + m) (cat R h S) F → TabAt H' tb rs (Kw.clo n (Kw.lArcs (cat R h S) F (h + m))) n → Q (.ref tb) H') ∨
    ∃ k, k < m ∧ (∀ i, i < k → (S i).f < n ∧ (S i).s < n) ∧ ¬ ((S k).f < n ∧ (S k).s < n) ∧ ∀ H' d, Same H H' → H' d = some (errD k) → E (.ref (cAt K "NoSuchNode")) (some d) H')
theorem ok_cheapest_table (D : Dk K mg "cheapest_table" s_cheapest_table) (C : ClsF K "Frame" frameNames) (h_check_nodes : Has P w K mg base (L2.CX P w) 3 "check_nodes" ["size", "claims"] (spCheck K)) (h_rule_rows : Has P w K mg base CX0 1 "rule_rows" ["rules"] (spRuleRows K)) (h_claim_rows : Has P w K mg base CX0 1 "claim_rows" ["claims"] (spClaimRows K))
    (h_pushed : Has P w K mg base CX0 6 "pushed" ["size", "hard", "soft"] (spPushed K)) (h_left_arcs : Has P w K mg base CX0 3 "left_arcs" ["rows", "flows"] (spLeft K)) (h_closure : Has P w K mg base CX0 2 "closure" ["size", "arcs"] (spClosure K)) :
    Has P w K mg base (L2.CX P w) 7 "cheapest_table" ["frame", "claims"] (spCheap K) := by
  have sc := sc_cheapest_table
  have n1 : NoAttr K (cAt K "Frame") "size" := C.no _ (by decide)
  have n2 : NoAttr K (cAt K "Frame") "rules" := C.no _ (by decide)
  refine D.has sc (fun vs H Q E h => ?_) (fun _ _ _ _ _ _ us hl => match us, hl with | [_, _], _ => rfl) (fun f cdv A outer s H vs Q E hr h => ?_)
  · obtain ⟨fa, ca, n, h, m, R, S, rfl, _⟩ := h
    rfl
  · obtain ⟨fa, ca, n, h, m, R, S, rfl, ⟨dx, t, xs, hf, ht, hu⟩, rok, rn, hc, hm, sok, q⟩ := h
    refine ⟨_, (pss_cons (ps_expr (pe_has h_check_nodes (hr.mono (by decide)) (passes_call (takes_of rfl rfl rfl rfl) (fun _ _ _ _ h => h)) (pa_cons (pe_fldK (K := K) rfl (pv 0) rfl) (pa_cons (pv 1) pa_nil))))
       (pss_cons (ps_set (i := 2) sc.nd rfl (Or.inl rfl) (pe_has h_rule_rows (hr.mono (by decide)) pass0 (pa_cons (pe_fldK (K := K) rfl (pv 0) rfl) pa_nil)))
       (pss_cons (ps_set (i := 3) sc.nd rfl (Or.inl rfl) (pe_has h_claim_rows (hr.mono (by decide)) pass0 (pa_cons (pv 1) pa_nil)))
       (pss_cons (ps_set (i := 4) sc.nd rfl (Or.inl rfl) (pe_has h_pushed (hr.mono (by decide)) pass0 (pa_cons (pe_fldK (K := K) rfl (pv 0) rfl) (pa_cons (pv 2) (pa_cons (pv 3) pa_nil)))))
       (pss_one (ps_ret (pe_has h_closure (hr.mono (by decide)) pass0 (pa_cons (pe_fldK (K := K) rfl (pv 0) rfl) (pa_cons (pe_has h_left_arcs (hr.mono (by decide)) pass0 (pa_cons (pe_op op_cat (pv 2) (pv 3)) (pa_cons (pv 4) pa_nil))) pa_nil))))))))), ?_⟩
    walk_at "sx"
    refine q_fld rfl hf C.cls n1 rfl ?_
    walk_at "sx"
    refine ⟨n, m, ca, S, rfl, hc, by omega, ?_⟩
    rcases q with ⟨sn, q⟩ | ⟨k, hk, k1, k2, q⟩
    · refine .inl ⟨sn, fun H1 s1 => ?_⟩
      have hn16 := rok.n16
      have hh := rok.k60
      have B := base_of rok rn sok sn
      walk_at "sx"
      refine q_fld rfl (s1 _ _ hf) C.cls n2 rfl ?_
      walk_at "sx"
      refine ⟨t, xs, R, h, rfl, .of (s1 _ _ ht), hu.same s1, by omega, rn, fun H2 ha s2 na rows1 => ?_⟩
      walk_at "sx"
      refine ⟨ca, S, m, rfl, hc.same (s1.trans s2), by omega, fun H3 sa s3 nsa rows2 => ?_⟩
      walk_at "sx"
      have s13 := (s1.trans s2).trans s3
      refine q_fld rfl (s13 _ _ hf) C.cls n1 rfl ?_
      walk_at "sx"
      have rowsA : RowsAt K H3 ha (cat R h S) h := (rows1.same s3).congr fun i hi => cat_l hi
      have rowsB : RowsAt K H3 sa (fun i => cat R h S (h + i)) m := rows2.congr fun i hi => cat_r
      have potx : ∃ x : Nat → Int, ∀ i, i < h → (∀ a, (cat R h S i).lo = some a → a ≤ Kw.dif x (cat R h S i)) ∧ ∀ b, (cat R h S i).hi = some b → Kw.dif x (cat R h S i) ≤ b := by
        obtain ⟨x, hx⟩ := rok.pot
        refine ⟨x, fun i hi => ?_⟩
        rw [cat_l hi]
        obtain ⟨a, b, e1, e2, _⟩ := (rok.st i hi).2.2.2
        exact pot_rows hx i hi (by rw [e1]; exact fun z => by cases z) (by rw [e2]; exact fun z => by cases z)
      refine ⟨n, ha, sa, cat R h S, h, m, rfl, by omega, by omega, rowsA, rowsB, B, fun i hi => ?_, potx, fun H4 fl F s4 nf hfl dn => ?_⟩
      · rw [cat_r]
        obtain ⟨wt, e, _⟩ := (sok i hi).rm
        exact ⟨wt, e⟩
      walk_at "sx"
      have s14 := s13.trans s4
      refine q_fld rfl (s14 _ _ hf) C.cls n1 rfl ?_
      walk_at "sx"
      obtain ⟨v1, a1, a2, a3⟩ := (rowsA.same s4).ex
      obtain ⟨v2, b1, b2, b3⟩ := (rowsB.same s4).ex
      refine ⟨ha, sa, v1, v2, rfl, rfl, a1, b1, line_le (by omega), fun ra nra => ?_⟩
      have s5 : Same H4 (upd H4 ra (.lst (v1 ++ v2))) := same_upd nra
      have hR := rows_cat s5 (rowsA.same s4) (rowsB.same s4) a1 b1 (upd_same (H := H4) (a := ra) (o := .lst (v1 ++ v2)))
      generalize upd H4 ra (.lst (v1 ++ v2)) = H5 at s5 hR
      walk_at "sx"
      refine ⟨ra, fl, cat R h S, F, h + m, h + m, rfl, hR, .of (s5 _ _ hfl), Nat.le_refl _, by omega, dn.fok, fun H6 ar as s6 nar har var => ?_⟩
      walk_at "sx"
      have s16 := (s14.trans s5).trans s6
      refine ⟨n, ar, as, _, rfl, by omega, har, Paired.mapP var fun v a z => arc_any z, Kw.lArcs_lt B (Nat.le_refl _), dn.pot, fun H7 tb rs s7 ntb nrs tab => ?_⟩
      exact q H7 tb rs F (s16.trans s7) (s16.free ntb) (fun i hi => s16.free (nrs i hi)) dn tab
    · exact .inr ⟨k, hk, k1, k2, q⟩
end
end Kt

namespace Kt
open PySem PySem.Spec PyProof.Rows L2
local macro_rules
  | `(tactic| walk_at "sx") => `(tactic| repeat (first
    | with_reducible refine q_seq ?_ | with_reducible refine q_par ?_ | with_reducible refine q_augS ?_ | with_reducible refine q_rev ?_ | with_reducible refine q_yes ?_ | with_reducible refine q_gname ?_ | with_reducible refine q_setG ?_ | with_reducible refine q_ip ?_ | with_reducible refine q_asg ?_ | with_reducible refine q_asgG ?_ | with_reducible refine q_ret ?_ | with_reducible refine q_drop ?_ | with_reducible refine q_if ?_ | with_reducible refine q_next ?_
    | with_reducible refine q_test ?_ | with_reducible refine q_tB ?_ | with_reducible refine q_chain ?_ | with_reducible refine q_andV ?_ | with_reducible refine q_bl ?_ | with_reducible refine q_exint ?_ | ((with_reducible show tAug _ _ _ _ _ _); refine q_aug rfl ?_) | with_reducible refine q_not ?_ | with_reducible refine q_and ?_ | with_reducible refine q_or ?_
    | with_reducible refine q_op ?_ | with_reducible refine q_un ?_ | with_reducible refine q_c ?_ | ((with_reducible show tVar _ _ _ _); refine q_var rfl ?_)
    | with_reducible refine q_i0 ?_ | with_reducible refine q_u ?_ | with_reducible refine q_eq ?_ | with_reducible refine q_ne ?_ | with_reducible refine q_isN ?_ | with_reducible refine q_notN ?_ | with_reducible refine q_min2 ?_ | with_reducible refine q_abs ?_ | with_reducible refine q_int ?_
    | with_reducible refine q_nil ?_ | with_reducible refine q_cons ?_ | with_reducible refine q_tup ?_ | with_reducible refine q_lst ?_ | with_reducible refine q_call ?_ | with_reducible refine q_makeN ?_ | with_reducible refine q_make ?_ | with_reducible refine q_cb ?_
    | ((with_reducible show ite _ _ _); first | refine ift rfl ?_ | refine iff' rfl ?_)))
-- slots: 0 _law_actual
abbrev s__law_whole : Stmt := topS 55
theorem sc__law_whole : FnScope ["_law_actual"] ["_law_actual"] (defScope s__law_whole) := ⟨rfl, rfl, rfl, by decide +kernel, rfl, by decide +kernel, by decide +kernel⟩
-- slots: 0 _law_actual 1 _law_part
abbrev s__law_wholes : Stmt := topS 56
theorem sc__law_wholes : FnScope ["_law_actual", "_law_part"] ["_law_actual"] (defScope s__law_wholes) := ⟨rfl, rfl, rfl, by decide +kernel, rfl, by decide +kernel, by decide +kernel⟩
-- slots: 0 _law_actual 1 _law_part
abbrev s__law_lists : Stmt := topS 57
theorem sc__law_lists : FnScope ["_law_actual", "_law_part"] ["_law_actual"] (defScope s__law_lists) := ⟨rfl, rfl, rfl, by decide +kernel, rfl, by decide +kernel, by decide +kernel⟩
section
/-! ### a def called whatever is handled -/
structure FnN (P : Program) (w : World) (K : PySem.W.Frag) (mg : Str → Option Value) (base : Heap) (k : Nat) (f : Addr) (fd : FuncData) (ps : List Str) (sp : Sp) : Prop where
  len : ∀ vs H Q E, sp vs H Q E → vs.length = ps.length
  run : ∀ (A : Around) (outer : List Env) (s : Shared) (H : Hp) (args : Args) (us : List Value) (vs : List V) (Q : VK) (E : XK), L2H.RoomH k A → Env0 P w K mg base A outer s H → BindsTo s fd args (ps.zip us) → Vals vs us → sp vs H Q E →
    codeAny (model P w) A (.call (.ref f) args) (CR CX0 outer P w H s Q E) s
def cxN (P : Program) (w : World) (K : PySem.W.Frag) (mg : Str → Option Value) (base : Heap) (N : List Str) (qual : Str) (scope : Scope) (f : Addr) (cd : Value) (A : Around) (outer : List Env) (s : Shared) (H : Hp) (E : XK) : Cx :=
  { cxOf CX0 P w K mg base N qual scope f cd A outer s H E with calm := false }
theorem inv_startN {P : Program} {w : World} {K : PySem.W.Frag} {mg : Str → Option Value} {base : Heap} {N ps : List Str} {qual : Str} {scope : Scope} {f : Addr} {cd : Value} {A : Around} {outer : List Env} {s s1 : Shared} {H : Hp} {E : XK} {us : List Value} {vs : List V}
    (S : FnScope N ps scope) (e0 : Env0 P w K mg base A outer s H) (hl : vs.length = ps.length) (r : Vals vs us)
    (x : InCallC s s.heap.objs.size (bindL (envOfC qual scope s.heap.objs.size f cd).kindOf (ps.zip us) fun _ => none) (cellsFrom (s.heap.objs.size + 1) scope.names []) (bindC (envOfC qual scope s.heap.objs.size f cd).kindOf (ps.zip us) fun _ => none) s1) :
    Inv (cxN P w K mg base N qual scope f cd A outer s H E) [] (L2.start N vs) H s1 := by
  have e1 : Env0 P w K mg base { A with handled := none } outer s H := ⟨e0.frames, e0.mod, e0.bs, e0.bsz, e0.funs, e0.frf, e0.hok, e0.bare⟩
  have I := inv_start (CX := CX0) (E := E) (A := { A with handled := none }) S rfl e1 hl r x
  have ok := I.ok
  exact ⟨⟨ok.mod, ok.kind, ok.glob, ok.blt, ok.above, ok.inj, ok.has, ok.cab, (fun z => Bool.noConfusion (show false = true from z)), Around.frames_deeper e0.frames, .inr ⟨rfl, rfl⟩, ok.exf, ok.bs, ok.bsz, ok.noex, ok.exfs, ok.funs, ok.frf⟩,
    I.os, I.bare, I.base, I.loc, I.cell, I.free, I.freeC, I.pin, I.hok, I.len⟩
variable {P : Program} {w : World} {K : PySem.W.Frag} {mg : Str → Option Value} {base : Heap}
structure HasN (P : Program) (w : World) (K : PySem.W.Frag) (mg : Str → Option Value) (base : Heap) (k : Nat) (x : Str) (ps : List Str) (sp : Sp) : Prop where
  ex : ∃ (f : Addr) (fd : FuncData), FnN P w K mg base k f fd ps sp ∧ Binds K fd ps [] ∧ mg x = some (.ref f) ∧ PySem.W.keepIn K (.ref f) = true
theorem Dk.hasN {x : Str} {st : Stmt} {N ps : List Str} {k : Nat} {sp : Sp} (D : Dk K mg x st) (S : FnScope N ps (defScope st)) (len : ∀ vs H Q E, sp vs H Q E → vs.length = ps.length)
    (hb : ∀ (kV doc pm : Value) (an : Option Addr) (cdv ct : Value) (us : List Value), us.length = ps.length → bindArgs (PySem.W.fnOf x x (defArgs st) (defBody st) (defScope st) .none kV doc pm an cdv ct) ⟨us, []⟩ = pure (ps.zip us))
    (hbody : ∀ (f : Addr) (cdv : Value) (A : Around) (outer : List Env) (s : Shared) (H : Hp) (vs : List V) (Q : VK) (E : XK), sp vs H Q E →
      ∃ t, PSs (cxN P w K mg base N x (defScope st) f cdv A outer s H E) (defBody st) t ∧ t { nx := fun _ H' => Q .non H', rt := Q } (L2.start N vs) H) : HasN P w K mg base (k + 1) x ps sp := by
  obtain ⟨f, fd, F, g⟩ := D.ex
  refine ⟨f, fd, ?_, F.bindsN hb, g, F.kp⟩
  obtain ⟨oc, od, dV, kV, doc, pm, an, cdv, ct, osl, rfl, lk, hcd, _, _⟩ := F.ex
  refine ⟨len, fun A outer s H args us vs Q E hr e0 hbd r hsp => ?_⟩
  have hl := len _ _ _ _ hsp
  have KX : K.In s.heap := e0.mod.kin.keeps fun b o e => (e0.bs b o e).1
  have lim : s.heap.NoLimit := e0.mod.nolimit.keeps fun b o e => (e0.bs b o e).1
  have hkind : ∀ y ∈ ps.zip us, (defScope st).names.lookup y.1 = some .local ∨ ((defScope st).names.lookup y.1 = some .cell ∧ ((cellsFrom (s.heap.objs.size + 1) (defScope st).names []).lookup y.1).isSome = true) := fun ⟨n, v⟩ hy =>
    (S.par n (List.of_mem_zip hy).1).imp id fun q => ⟨q, PySem.W.cellsFrom_some _ _ _ (.inl q)⟩
  refine codeAny_call_function hr.depth (KX _ _ lk) rfl S.co S.gen rfl (PySem.W.codeRec_of KX hcd) (hbd _ _ _ _ ?_)
  refine wpAny_newFunctionEnv_cells S.kind hkind fun env he s1 x => ?_
  subst he
  refine ⟨lim.keeps x.toInCall.keep, codeAny_func ?_⟩
  obtain ⟨t, ht, hq⟩ := hbody f cdv A outer s H vs Q E hsp
  refine wpAny_mono (ht.run [] s1 (L2.start N vs) H _ (inv_startN S e0 hl r x) hq) (fun fl s' hs => ?_) fun e s' hs => hs
  cases fl with
  | ret u =>
    obtain ⟨v, σ', H', J, rv, q⟩ := hs
    exact ⟨v, H', J.os, J.bare, J.base, J.hok, rv, q⟩
  | next =>
    obtain ⟨σ', H', J, q⟩ := hs
    exact ⟨.non, H', J.os, J.bare, J.base, J.hok, rfl, q⟩
  | brk => exact False.elim hs.choose_spec.choose_spec.2
  | cont => exact False.elim hs.choose_spec.choose_spec.2
theorem pe_hasN {X : Cx} {k : Nat} {x : Str} {ps : List Str} {sp : Sp} {t : TA} {p pos : Pos} {e : Expr} {es : List Expr} (h : HasN X.prog X.w X.K X.mg X.base k x ps sp) (hr : L2H.RoomH k X.A) (ha : PA X (e :: es) t)
    (hg : Gl X x := by rfl) (hdb : (x == ("__debug__" : Str)) = false := by decide) (he : starEach (e :: es) X.env = (false, eval e X.env) :: starEach es X.env := by rfl) (hpl : (backTo pos (starEach es X.env)).any (·.1) = false := by rfl) : PE X (.Call (.Name x p) (e :: es) [] pos) (tCall sp [] E0 t) := by
  obtain ⟨f, fd, F, b, g, kp⟩ := h.ex
  refine ⟨fun pins s σ H Q I h => ?_⟩
  refine wpAny_Call_Name_kw (ld_glob I hg g ?_ hdb)
  refine PySem.W.callWith_K (h₀ := X.base) I.ok.mod.kin kp (thn (ha.run pos pins s σ H _ I h) fun us s1 ⟨vs, H1, I1, r, q⟩ => ⟨I1.kIn, ?_⟩) he hpl
  have q : sp vs H1 Q E0 := by
    have z : sp (vs ++ []) H1 Q E0 := q
    rw [List.append_nil] at z
    exact z
  have hl : us.length = ps.length := by rw [← r.length]; exact F.len _ _ _ _ q
  have b' := b s1 us I1.kIn (by rw [List.append_nil]; exact hl)
  rw [List.append_nil] at b'
  refine wpAny_call (codeAny_mono (F.run X.A X.stack s1 H1 ⟨us, []⟩ us vs Q E0 hr I1.env0 b' r q) fun r s' hq => ?_)
  cases r with
  | error e => exact False.elim hq
  | ok fl =>
    cases fl with
    | ret u => exact I1.after hq
    | next => exact False.elim hq
    | brk => exact False.elim hq
    | cont => exact False.elim hq
end
section
variable {P : Program} {w : World} {K : PySem.W.Frag} {mg : Str → Option Value} {base : Heap}
theorem q_notV {σ : L2.St} {H : Hp} {Q : VK} {ta : TE} (q : ta σ H fun x H1 => ∃ c, x = .bl c ∧ Q (.bl (!c)) H1) : tNotV ta σ H Q := q
theorem q_isi {H : Hp} {Q : VK} {x : V} {a b : String} {r : Bool} (hT : TyX K H x (.type a)) (h : kitB a b = some r) (q : Q (.bl r) H) : rIsi K [x, .ty b] H Q := ⟨x, .ty b, .type a, .type b, r, rfl, .ty b, hT, kit_ty h, q⟩
def spWhole : Sp := fun vs H Q _ => ∃ i : Int, vs = [.int i] ∧ Q (.bl true) H
theorem ok__law_whole (D : Dk K mg "_law_whole" s__law_whole) (fr : Fr mg) : Has P w K mg base CX0 1 "_law_whole" ["_law_actual"] spWhole := by
  have sc := sc__law_whole
  refine D.has0 sc (fun vs H Q E h => ?_) (fun _ _ _ _ _ _ us hl => match us, hl with | [_], _ => rfl) (fun f cdv A outer s H vs Q E hr h => ?_)
  · obtain ⟨i, rfl, _⟩ := h
    rfl
  · obtain ⟨i, rfl, q⟩ := h
    refine ⟨_, (pss_one (ps_ret (pe_and (pe_callB call_isi (by rfl) fr.isinstance (by decide +kernel) (pa_cons (pv 0) (pa_cons (pe_bltn (v := .ty "int") (by rfl) fr.int (by decide +kernel) rfl) pa_nil))) (pe_one (pe_not (pe_callB call_isi (by rfl) fr.isinstance (by decide +kernel) (pa_cons (pv 0) (pa_cons (pe_bltn (v := .ty "bool") (by rfl) fr.bool (by decide +kernel) rfl) pa_nil)))))))), ?_⟩
    walk_at "sx"
    refine q_isi (.base (.int i)) (r := true) (by decide +kernel) ?_
    walk_at "sx"
    refine q_notV ?_
    walk_at "sx"
    refine q_isi (.base (.int i)) (r := false) (by decide +kernel) ?_
    exact ⟨_, rfl, q⟩
theorem okN__law_whole (D : Dk K mg "_law_whole" s__law_whole) (fr : Fr mg) : HasN P w K mg base 1 "_law_whole" ["_law_actual"] spWhole := by
  have sc := sc__law_whole
  refine D.hasN sc (fun vs H Q E h => ?_) (fun _ _ _ _ _ _ us hl => match us, hl with | [_], _ => rfl) (fun f cdv A outer s H vs Q E h => ?_)
  · obtain ⟨i, rfl, _⟩ := h
    rfl
  · obtain ⟨i, rfl, q⟩ := h
    refine ⟨_, (pss_one (ps_ret (pe_and (pe_callB call_isi (by rfl) fr.isinstance (by decide +kernel) (pa_cons (pv 0) (pa_cons (pe_bltn (v := .ty "int") (by rfl) fr.int (by decide +kernel) rfl) pa_nil))) (pe_one (pe_not (pe_callB call_isi (by rfl) fr.isinstance (by decide +kernel) (pa_cons (pv 0) (pa_cons (pe_bltn (v := .ty "bool") (by rfl) fr.bool (by decide +kernel) rfl) pa_nil)))))))), ?_⟩
    walk_at "sx"
    refine q_isi (.base (.int i)) (r := true) (by decide +kernel) ?_
    walk_at "sx"
    refine q_notV ?_
    walk_at "sx"
    refine q_isi (.base (.int i)) (r := false) (by decide +kernel) ?_
    exact ⟨_, rfl, q⟩
def spWholes : Sp := fun vs H Q _ => ∃ (a : Addr) (F : Nat → Int) (n : Nat), vs = [.ref a] ∧ H a = some (.lst (flV (fun i => .int (F i)) n)) ∧ Q (.bl true) H
theorem ok__law_wholes (D : Dk K mg "_law_wholes" s__law_wholes) (fr : Fr mg) (h__law_whole : Has P w K mg base CX0 1 "_law_whole" ["_law_actual"] spWhole) : Has P w K mg base CX0 2 "_law_wholes" ["_law_actual"] spWholes := by
  have sc := sc__law_wholes
  refine D.has0 sc (fun vs H Q E h => ?_) (fun _ _ _ _ _ _ us hl => match us, hl with | [_], _ => rfl) (fun f cdv A outer s H vs Q E hr h => ?_)
  · obtain ⟨a, F, n, rfl, _⟩ := h
    rfl
  · obtain ⟨a, F, n, rfl, ha, q⟩ := h
    refine ⟨_, (pss_cons (ps_if (pt_not (pt_val (pe_callB call_isi (by rfl) fr.isinstance (by decide +kernel) (pa_cons (pv 0) (pa_cons (pe_bltn (v := .ty "list") (by rfl) fr.list (by decide +kernel) rfl) pa_nil))))) (pss_one (ps_ret pe_bl)) pss_nil)
       (pss_cons (ps_for PassesOwn.never rfl (pi_listK (K := K) rfl (pv 0)) (pg_name (i := 1) sc.nd rfl (Or.inl rfl))
        (pss_one (ps_if (pt_not (pt_val (pe_has h__law_whole (hr.mono (by decide)) pass0 (pa_cons (pv 1) pa_nil)))) (pss_one (ps_ret pe_bl)) pss_nil)))
       (pss_one (ps_ret pe_bl)))), ?_⟩
    walk_at "sx"
    refine q_isi (.base (.lst ha)) (r := true) (by decide +kernel) ?_
    walk_at "sx"
    refine q_forL rfl ⟨a, _, rfl, .of ha, fun i σ H' => H' = H ∧ ∃ y, σ = [some (.ref a), y], ⟨rfl, _, rfl⟩, ?_, ?_, ?_⟩
    · rintro i σ H' hi ⟨rfl, _⟩
      exact .of ha
    · rintro i x σ H' hx ⟨rfl, y, rfl⟩
      have hi : i < n := by
        have := (List.getElem?_eq_some_iff.mp hx).1
        rw [flV_len] at this
        exact this
      rw [flV_get hi] at hx
      cases hx
      refine q_gname ?_
      walk_at "sx"
      refine ⟨F i, rfl, ?_⟩
      walk_at "sx"
      exact ⟨rfl, _, rfl⟩
    · rintro σ H' ⟨rfl, _⟩
      walk_at "sx"
      exact q
def spLists : Sp := fun vs H Q _ => ∃ (tb : Addr) (rs : Nat → Addr) (T : Nat → Nat → Int) (n : Nat), vs = [.ref tb] ∧ TabAt H tb rs (fun i j => some (T i j)) n ∧ Q (.bl true) H
theorem ok__law_lists (D : Dk K mg "_law_lists" s__law_lists) (fr : Fr mg) (h__law_wholes : Has P w K mg base CX0 2 "_law_wholes" ["_law_actual"] spWholes) : Has P w K mg base CX0 3 "_law_lists" ["_law_actual"] spLists := by
  have sc := sc__law_lists
  refine D.has0 sc (fun vs H Q E h => ?_) (fun _ _ _ _ _ _ us hl => match us, hl with | [_], _ => rfl) (fun f cdv A outer s H vs Q E hr h => ?_)
  · obtain ⟨tb, rs, T, n, rfl, _⟩ := h
    rfl
  · obtain ⟨tb, rs, T, n, rfl, ht, q⟩ := h
    refine ⟨_, (pss_cons (ps_if (pt_not (pt_val (pe_callB call_isi (by rfl) fr.isinstance (by decide +kernel) (pa_cons (pv 0) (pa_cons (pe_bltn (v := .ty "list") (by rfl) fr.list (by decide +kernel) rfl) pa_nil))))) (pss_one (ps_ret pe_bl)) pss_nil)
       (pss_cons (ps_for PassesOwn.never rfl (pi_listK (K := K) rfl (pv 0)) (pg_name (i := 1) sc.nd rfl (Or.inl rfl))
        (pss_one (ps_if (pt_not (pt_val (pe_has h__law_wholes (hr.mono (by decide)) pass0 (pa_cons (pv 1) pa_nil)))) (pss_one (ps_ret pe_bl)) pss_nil)))
       (pss_one (ps_ret pe_bl)))), ?_⟩
    walk_at "sx"
    refine q_isi (.base (.lst ht.top)) (r := true) (by decide +kernel) ?_
    walk_at "sx"
    refine q_forL rfl ⟨tb, _, rfl, .of ht.top, fun i σ H' => H' = H ∧ ∃ y, σ = [some (.ref tb), y], ⟨rfl, _, rfl⟩, ?_, ?_, ?_⟩
    · rintro i σ H' hi ⟨rfl, _⟩
      exact .of ht.top
    · rintro i x σ H' hx ⟨rfl, y, rfl⟩
      have hi : i < n := by
        have := (List.getElem?_eq_some_iff.mp hx).1
        rw [flV_len] at this
        exact this
      rw [flV_get hi] at hx
      cases hx
      refine q_gname ?_
      walk_at "sx"
      refine ⟨rs i, fun j => T i j, n, rfl, ht.row i hi, ?_⟩
      walk_at "sx"
      exact ⟨rfl, _, rfl⟩
    · rintro σ H' ⟨rfl, _⟩
      walk_at "sx"
      exact q
end
end Kt

namespace Kt
open PySem PySem.Spec PyProof.Rows L2
local macro_rules
  | `(tactic| walk_at "sx") => `(tactic| repeat (first
    | with_reducible refine q_seq ?_ | with_reducible refine q_par ?_ | with_reducible refine q_augS ?_ | with_reducible refine q_rev ?_ | with_reducible refine q_yes ?_ | with_reducible refine q_gname ?_ | with_reducible refine q_setG ?_ | with_reducible refine q_ip ?_ | with_reducible refine q_asg ?_ | with_reducible refine q_asgG ?_ | with_reducible refine q_ret ?_ | with_reducible refine q_drop ?_ | with_reducible refine q_if ?_ | with_reducible refine q_next ?_
    | with_reducible refine q_test ?_ | with_reducible refine q_tB ?_ | with_reducible refine q_chain ?_ | with_reducible refine q_andV ?_ | with_reducible refine q_bl ?_ | with_reducible refine q_exint ?_ | ((with_reducible show tAug _ _ _ _ _ _); refine q_aug rfl ?_) | with_reducible refine q_not ?_ | with_reducible refine q_and ?_ | with_reducible refine q_or ?_
    | with_reducible refine q_op ?_ | with_reducible refine q_un ?_ | with_reducible refine q_c ?_ | ((with_reducible show tVar _ _ _ _); refine q_var rfl ?_)
    | with_reducible refine q_i0 ?_ | with_reducible refine q_u ?_ | with_reducible refine q_eq ?_ | with_reducible refine q_ne ?_ | with_reducible refine q_isN ?_ | with_reducible refine q_notN ?_ | with_reducible refine q_min2 ?_ | with_reducible refine q_abs ?_ | with_reducible refine q_int ?_
    | with_reducible refine q_nil ?_ | with_reducible refine q_cons ?_ | with_reducible refine q_tup ?_ | with_reducible refine q_lst ?_ | with_reducible refine q_call ?_ | with_reducible refine q_makeN ?_ | with_reducible refine q_make ?_ | with_reducible refine q_cb ?_
    | ((with_reducible show ite _ _ _); first | refine ift rfl ?_ | refine iff' rfl ?_)))
section
variable {P : Program} {w : World} {K : PySem.W.Frag} {mg : Str → Option Value} {base : Heap}
abbrev s__law_refused : Stmt := topS 68
theorem sc__law_refused : FnScope ["_law_frame", "_law_claims_here", "_law_index", "e"] ["_law_frame", "_law_claims_here", "_law_index"] (defScope s__law_refused) := ⟨rfl, rfl, rfl, by decide +kernel, rfl, by decide +kernel, by decide +kernel⟩
/-- isinstance(e, c) of a caught exception that has its dict -/
def rIsD (K : PySem.W.Frag) (D a : Addr) (cls : Value) (d : Option Addr) : List V → Hp → VK → Prop := fun xs H Q => ∃ (c : V) (cv : Value) (b : Bool) (dd : Addr) (fs : List (Str × V)), xs = [.ref a, c] ∧ cls = .ref D ∧ d = some dd ∧ H dd = some (.xd fs) ∧ (∀ u, RelV c u → u = cv) ∧ PySem.W.kitOne K (.ref D) cv = some b ∧ Q (.bl b) H
theorem call_isD {X : Cx} {a D : Addr} {oe : Obj} {cls : Value} {d : Option Addr} {pn : List (Addr × Obj)} (C : ExcC X.K D) (hz : Zc cls d oe) (hf : ∃ vs, oe.data = .fields vs) : CallR (X.suite a ((a, oe) :: pn)) (.builtin "isinstance") (rIsD X.K D a cls d) := by
  intro pins s σ H xs us Q I r h
  obtain ⟨c, cv, b, dd, fs, rfl, rfl, rfl, hdd, hcv, e, q⟩ := h
  cases r with
  | cons rx rr =>
  cases rr with
  | cons rt rr =>
  cases rr
  cases rx
  have ec := hcv _ rt
  subst ec
  obtain ⟨hget, _⟩ := I.pin (a, oe) (List.mem_append.mpr (.inl List.mem_cons_self))
  obtain ⟨vs, hv⟩ := hf
  obtain ⟨mA, ⟨od, es, ep, ho, hr⟩, _⟩ := (show ObjOk X.prog X.w H s.heap dd (.xd fs) from I.hok dd _ hdd)
  have J : PySem.W.InstAt s.heap a oe D (some od) := by
    obtain ⟨oc, odc, oda, osl⟩ := oe
    obtain ⟨h1, h2⟩ := hz
    dsimp only at h1 h2 hv
    subst h1 h2 hv
    exact ⟨hget, rfl, rfl, ho⟩
  have hcl : (PySem.W.clsIn X.K D).isSome = true := by
    obtain ⟨cd, hc, _⟩ := PySem.W.any_some C.hd
    rw [hc]
    rfl
  exact PySem.W.kia_one (PySem.W.kitx_exc hcl C.hg C.hk C.hs C.ha C.hn C.ht C.hm) I.kIn J e (fun z => nomatch z) fun tk => ⟨.bl b, H, I.kept (t' := tk) fun _ _ z => z, rfl, q⟩
theorem roomM {k : Nat} {A : Around} (r : Room k A) (h : Option Value) : L2H.RoomH k (A.mark h) := ⟨r.dp, r.un⟩
/-- what of the classes the handler asks -/
structure ExF (K : PySem.W.Frag) (mg : Str → Option Value) : Prop where
  exc : ExcC K (cAt K "NoSuchNode")
  xf : XfC K (cAt K "NoSuchNode")
  no : PySem.W.findIn K (.ref (cAt K "NoSuchNode")) "index" = some none
  g1 : mg "HallError" = some (.ref (cAt K "HallError"))
  g2 : mg "NoSuchNode" = some (.ref (cAt K "NoSuchNode"))
  g3 : mg "Clash" = some (.ref (cAt K "Clash"))
  g4 : mg "BrokenChain" = some (.ref (cAt K "BrokenChain"))
  exm : PySem.W.exmOne K (.ref (cAt K "NoSuchNode")) (.ref (cAt K "HallError")) = some true
  k2 : PySem.W.kitOne K (.ref (cAt K "NoSuchNode")) (.ref (cAt K "NoSuchNode")) = some true
  k3 : PySem.W.kitOne K (.ref (cAt K "NoSuchNode")) (.type "ValueError") = some true
  k4 : PySem.W.kitOne K (.ref (cAt K "NoSuchNode")) (.ref (cAt K "Clash")) = some false
  k5 : PySem.W.kitOne K (.ref (cAt K "NoSuchNode")) (.ref (cAt K "BrokenChain")) = some false
theorem pe_hasS {X : Cx} {k : Nat} {x : Str} {ps : List Str} {sp : Sp} {W : WX} {t : TA} {p pos : Pos} {e : Expr} {es : List Expr} (h : Has X.prog X.w X.K X.mg X.base (L2.CX X.prog X.w) k x ps sp) (hr : Room k X.A) (tk : Takes X W) (ha : PA X (e :: es) t)
    (hg : Gl X x := by rfl) (hdb : (x == ("__debug__" : Str)) = false := by decide) (he : starEach (e :: es) X.env = (false, eval e X.env) :: starEach es X.env := by rfl) (hpl : (backTo pos (starEach es X.env)).any (·.1) = false := by rfl) : PE X (.Call (.Name x p) (e :: es) [] pos) (tCallS sp (WE W) t) := by
  obtain ⟨f, fd, F, b, g, kp⟩ := h.ex
  exact pe_callS F hr hg g kp b (fun σ => passAt tk σ) ha hdb he hpl
theorem q_callS {σ : L2.St} {H : Hp} {Q : VK} {sp : Sp} {E : L2.St → XK} {t : TA} (q : t σ H fun vs H1 => sp vs H1 Q (E σ)) : tCallS sp E t σ H Q := q
def spRefused (K : PySem.W.Frag) : Sp := fun vs H Q _ => ∃ (fa ca : Addr) (n h m k : Nat) (R S : Nat → Kw.Row), vs = [.ref fa, .ref ca, .int k] ∧ FrAt K H fa n h R ∧ RulOk n h R ∧ (∀ i, i < h → (R i).rm = none) ∧ ClsAt K H ca S m ∧ m ≤ 100 ∧ (∀ i, i < m → ClmOk (S i)) ∧
  k < m ∧ (∀ i, i < k → (S i).f < n ∧ (S i).s < n) ∧ ¬ ((S k).f < n ∧ (S k).s < n) ∧ ∀ H', Same H H' → Q (.bl true) H'
theorem ok__law_refused (D : Dk K mg "_law_refused" s__law_refused) (fr : Fr mg) (X : ExF K mg) (h_cheapest_table : Has P w K mg base (L2.CX P w) 7 "cheapest_table" ["frame", "claims"] (spCheap K)) (h__law_whole : HasN P w K mg base 1 "_law_whole" ["_law_actual"] spWhole) :
    Has P w K mg base CX0 8 "_law_refused" ["_law_frame", "_law_claims_here", "_law_index"] (spRefused K) := by
  have sc := sc__law_refused
  refine D.has0 sc (fun vs H Q E h => ?_) (fun _ _ _ _ _ _ us hl => match us, hl with | [_, _, _], _ => rfl) (fun f cdv A outer s H vs Q E hr h => ?_)
  · obtain ⟨fa, ca, n, h, m, k, R, S, rfl, _⟩ := h
    rfl
  · obtain ⟨fa, ca, n, h, m, k, R, S, rfl, hF, rok, rn, hc, hm, sok, hk, k1, k2, q⟩ := h
    refine ⟨_, pss_cons (ps_try_as (i := 3) (c := .ref (cAt K "HallError")) rfl rfl sc.nd rfl rfl ⟨rfl, by decide, .inl X.g1⟩ (takes0 (X := _))
        (fun W pn xe tk po => pss_one (ps_expr (pe_hasS h_cheapest_table (hr.mono (by decide)) tk (pa_cons (pv 0) (pa_cons (pv 1) pa_nil)))))
        (fun a oe cls d pn hz hf => pss_cons (ps_if (PW.pt (pw_or (pt_not (pt_val (pe_callB (call_isD (D := cAt K "NoSuchNode") X.exc hz hf) (by rfl) fr.isinstance (by decide +kernel) (pa_cons (pv 3) (pa_cons (pe_glob (v := .ref (cAt K "NoSuchNode")) (by rfl) X.g2 rfl) pa_nil)))))
            (pw_or1 (pt_not (pt_val (pe_callB (call_isD (D := cAt K "NoSuchNode") X.exc hz hf) (by rfl) fr.isinstance (by decide +kernel) (pa_cons (pv 3) (pa_cons (pe_bltn (v := .ty "ValueError") (by rfl) fr.valueError (by decide +kernel) rfl) pa_nil)))))))) (pss_one (ps_ret pe_bl)) pss_nil)
          (pss_cons (ps_if (PW.pt (pw_or (pt_val (pe_callB (call_isD (D := cAt K "NoSuchNode") X.exc hz hf) (by rfl) fr.isinstance (by decide +kernel) (pa_cons (pv 3) (pa_cons (pe_glob (v := .ref (cAt K "Clash")) (by rfl) X.g3 rfl) pa_nil))))
            (pw_or1 (pt_val (pe_callB (call_isD (D := cAt K "NoSuchNode") X.exc hz hf) (by rfl) fr.isinstance (by decide +kernel) (pa_cons (pv 3) (pa_cons (pe_glob (v := .ref (cAt K "BrokenChain")) (by rfl) X.g4 rfl) pa_nil))))))) (pss_one (ps_ret pe_bl)) pss_nil)
          (pss_one (ps_ret (pe_and (pe_hasN h__law_whole (roomM (hr.mono (by decide)) _) (pa_cons (pe_xf X.xf X.no hz hf (pv 3)) pa_nil)) (pe_one (pe_cmpR op_eq (pe_xf X.xf X.no hz hf (pv 3)) (pv 2) (nomark _))))))))) (pss_one (ps_ret pe_bl)), ?_⟩
    refine q_seq ?_
    refine q_drop ?_
    refine q_callS ?_
    walk_at "sx"
    refine ⟨fa, ca, n, h, m, R, S, rfl, hF, rok, rn, hc, hm, sok, .inr ⟨k, hk, k1, k2, fun H' d s1 hd => ⟨true, X.exm, fun _ a na => ?_, fun z => nomatch z⟩⟩⟩
    walk_at "sx"
    refine ⟨.ref (cAt K "NoSuchNode"), .ref (cAt K "NoSuchNode"), true, d, _, rfl, rfl, rfl, hd, fun u r => r, X.k2, ?_⟩
    walk_at "sx"
    refine ⟨.ty "ValueError", .type "ValueError", true, d, _, rfl, rfl, rfl, hd, fun u r => r, X.k3, ?_⟩
    walk_at "sx"
    refine ⟨.ref (cAt K "Clash"), .ref (cAt K "Clash"), false, d, _, rfl, rfl, rfl, hd, fun u r => r, X.k4, ?_⟩
    walk_at "sx"
    refine ⟨.ref (cAt K "BrokenChain"), .ref (cAt K "BrokenChain"), false, d, _, rfl, rfl, rfl, hd, fun u r => r, X.k5, ?_⟩
    walk_at "sx"
    refine ⟨.ref a, rfl, rfl, rfl, d, _, .int k, rfl, hd, rfl, ?_⟩
    walk_at "sx"
    refine ⟨k, rfl, ?_⟩
    walk_at "sx"
    refine ⟨.ref a, rfl, rfl, rfl, d, _, .int k, rfl, hd, rfl, ?_⟩
    walk_at "sx"
    rw [decide_eq_true rfl]
    exact q H' s1
end
end Kt

namespace Kt
open PySem PySem.Spec PyProof.Rows L2
local macro_rules
  | `(tactic| walk_at "sx") => `(tactic| repeat (first
    | with_reducible refine q_seq ?_ | with_reducible refine q_par ?_ | with_reducible refine q_augS ?_ | with_reducible refine q_rev ?_ | with_reducible refine q_yes ?_ | with_reducible refine q_gname ?_ | with_reducible refine q_setG ?_ | with_reducible refine q_ip ?_ | with_reducible refine q_asg ?_ | with_reducible refine q_asgG ?_ | with_reducible refine q_ret ?_ | with_reducible refine q_drop ?_ | with_reducible refine q_if ?_ | with_reducible refine q_next ?_
    | with_reducible refine q_test ?_ | with_reducible refine q_tB ?_ | with_reducible refine q_chain ?_ | with_reducible refine q_andV ?_ | with_reducible refine q_bl ?_ | with_reducible refine q_exint ?_ | ((with_reducible show tAug _ _ _ _ _ _); refine q_aug rfl ?_) | with_reducible refine q_not ?_ | with_reducible refine q_and ?_ | with_reducible refine q_or ?_
    | with_reducible refine q_op ?_ | with_reducible refine q_un ?_ | with_reducible refine q_c ?_ | ((with_reducible show tVar _ _ _ _); refine q_var rfl ?_)
    | with_reducible refine q_i0 ?_ | with_reducible refine q_u ?_ | with_reducible refine q_eq ?_ | with_reducible refine q_ne ?_ | with_reducible refine q_isN ?_ | with_reducible refine q_notN ?_ | with_reducible refine q_min2 ?_ | with_reducible refine q_abs ?_ | with_reducible refine q_int ?_
    | with_reducible refine q_nil ?_ | with_reducible refine q_cons ?_ | with_reducible refine q_tup ?_ | with_reducible refine q_lst ?_ | with_reducible refine q_call ?_ | with_reducible refine q_makeN ?_ | with_reducible refine q_make ?_ | with_reducible refine q_cb ?_
    | ((with_reducible show ite _ _ _); first | refine ift rfl ?_ | refine iff' rfl ?_)))
-- slots: 0 _law_script 1 _law_place
abbrev s__law_source : Stmt := topS 44
theorem sc__law_source : FnScope ["_law_script", "_law_place"] ["_law_script", "_law_place"] (defScope s__law_source) := ⟨rfl, rfl, rfl, by decide +kernel, rfl, by decide +kernel, by decide +kernel⟩
-- slots: 0 _law_source_here 1 _law_size 2 _law_cell 3 _law_mixed
abbrev s__law_draw : Stmt := topS 45
theorem sc__law_draw : FnScope ["_law_source_here", "_law_size", "_law_cell", "_law_mixed"] ["_law_source_here", "_law_size"] (defScope s__law_draw) := ⟨rfl, rfl, rfl, by decide +kernel, rfl, by decide +kernel, by decide +kernel⟩
-- slots: 0 _law_source_here 1 _law_least 2 _law_most
abbrev s__law_between : Stmt := topS 46
theorem sc__law_between : FnScope ["_law_source_here", "_law_least", "_law_most"] ["_law_source_here", "_law_least", "_law_most"] (defScope s__law_between) := ⟨rfl, rfl, rfl, by decide +kernel, rfl, by decide +kernel, by decide +kernel⟩
-- slots: 0 _law_source_here 1 _law_base 2 _law_first 3 _law_second 4 _law_reach 5 _law_gap 6 _law_wide 7 _law_below
abbrev s__law_rule : Stmt := topS 47
theorem sc__law_rule : FnScope ["_law_source_here", "_law_base", "_law_first", "_law_second", "_law_reach", "_law_gap", "_law_wide", "_law_below"] ["_law_source_here", "_law_base", "_law_first", "_law_second", "_law_reach"] (defScope s__law_rule) := ⟨rfl, rfl, rfl, by decide +kernel, rfl, by decide +kernel, by decide +kernel⟩
section
variable {P : Program} {w : World} {K : PySem.W.Frag} {mg : Str → Option Value} {base : Heap}
/-- a source of draws -/
def SrcAt (H : Hp) (s : Addr) : Prop := ∃ c k : Int, H s = some (.lst [.int c, .int k])
theorem SrcAt.ne {H : Hp} {s t : Addr} (h : SrcAt H s) (n : H t = none) : t ≠ s := by
  obtain ⟨c, k, e⟩ := h
  exact (ne_of_none e n).symm
theorem SrcAt.same {H H' : Hp} {s : Addr} (h : SrcAt H s) (e : Same H H') : SrcAt H' s := by
  obtain ⟨c, k, z⟩ := h
  exact ⟨c, k, e _ _ z⟩
theorem Keep.free1 {H H' : Hp} {s t : Addr} (k : Keep (· = s) H H') (n : H' t = none) (h : t ≠ s) : H t = none := by
  cases z : H t with
  | none => rfl
  | some o =>
    rw [k t o h z] at n
    cases n
def spSource (K : PySem.W.Frag) : Sp := fun vs H Q _ => ∃ (a : Addr) (ns : List Int) (p : Nat), vs = [.ref a, .int p] ∧ SqL K H a (ns.map V.int) ∧ ∀ H' s, Same H H' → H s = none → SrcAt H' s → Q (.ref s) H'
theorem src_fin {H : Hp} {Q : VK} {c p : Int} (q : ∀ H' s, Same H H' → H s = none → SrcAt H' s → Q (.ref s) H') : [V.int c, V.int p].length ≤ sizeLine ∧ ∀ s, H s = none → Q (.ref s) (upd H s (.lst [.int c, .int p])) :=
  ⟨line_le (n := 2) (by decide), fun s ns => q _ s (same_upd ns) ns ⟨c, p, upd_same⟩⟩
theorem ok__law_source (D : Dk K mg "_law_source" s__law_source) (fr : Fr mg) : Has P w K mg base CX0 1 "_law_source" ["_law_script", "_law_place"] (spSource K) := by
  have sc := sc__law_source
  refine D.has0 sc (fun vs H Q E h => ?_) (fun _ _ _ _ _ _ us hl => match us, hl with | [_, _], _ => rfl) (fun f cdv A outer s H vs Q E hr h => ?_)
  · obtain ⟨a, ns, p, rfl, _⟩ := h
    rfl
  · obtain ⟨a, ns, p, rfl, ha, q⟩ := h
    have hL : ∀ {Q : VK} {H'}, Q (.int (ns.map V.int).length) H → H' = H → rLenQ K [.ref a] H' Q := fun z e => by rw [e]; exact ⟨a, _, rfl, .inl ha, z⟩
    refine ⟨_, (pss_cons (ps_if (pt_cmpR op_lt (pv 1) (pe_callB (id := "len") (c_len (K := K) rfl) (by rfl) fr.len (by decide +kernel) (pa_cons (pv 0) pa_nil)) (nomark _)) (pss_one (ps_ret (pe_lst (pa_cons (pe_callB (id := "abs") c_abs (by rfl) fr.abs (by decide +kernel) (pa_cons (pe_ixL (K := K) rfl (pv 0) (pv 1) (fun _ _ => rfl)) pa_nil)) (pa_cons (pv 1) pa_nil))))) pss_nil)
       (pss_cons (ps_if (pt_cmpR op_eq (pe_callB (id := "len") (c_len (K := K) rfl) (by rfl) fr.len (by decide +kernel) (pa_cons (pv 0) pa_nil)) pe_int (nomark _)) (pss_one (ps_ret (pe_lst (pa_cons (pe_op op_add (pe_op op_mul pe_int (pv 1)) pe_int) (pa_cons (pv 1) pa_nil))))) pss_nil)
       (pss_one (ps_ret (pe_lst (pa_cons (pe_op op_add (pe_op op_add (pe_op op_mul pe_int (pe_callB (id := "abs") c_abs (by rfl) fr.abs (by decide +kernel) (pa_cons (pe_ixL (K := K) rfl (pv 0) (pe_op op_modN (pe_callTy (T := "int") c_int (by rfl) fr.int (by decide +kernel) (pa_cons (pv 1) pa_nil)) (pe_callB (id := "len") (c_len (K := K) rfl) (by rfl) fr.len (by decide +kernel) (pa_cons (pv 0) pa_nil))) (fun _ _ => rfl)) pa_nil))) (pe_op op_mul pe_int (pv 1))) pe_int) (pa_cons (pv 1) pa_nil))))))), ?_⟩
    walk_at "sx"
    refine q_len ha ?_
    walk_at "sx"
    rw [List.length_map]
    refine ifd (fun lt => ?_) (fun ge => ?_)
    · have lt : p < ns.length := Int.ofNat_lt.mp lt
      walk_at "sx"
      refine q_ixL ha (atI_nat (by rw [List.getElem?_map, List.getElem?_eq_getElem lt]; rfl)) ?_
      walk_at "sx"
      exact src_fin q
    · walk_at "sx"
      refine q_len ha ?_
      walk_at "sx"
      rw [List.length_map]
      refine ifd (fun e => ?_) (fun e => ?_)
      · walk_at "sx"
        refine q_i (cmul_l ⟨by decide, by decide⟩) ?_
        walk_at "sx"
        exact src_fin q
      · walk_at "sx"
        refine q_len ha ?_
        rw [List.length_map]
        have pos : 0 < ns.length := by
          rcases Nat.eq_zero_or_pos ns.length with z | z
          · rw [z] at e
            exact absurd rfl e
          · exact z
        refine q_i e ?_
        have hf : (p : Int).fmod (ns.length : Int) = ((p % ns.length : Nat) : Int) := by
          rw [Int.fmod_eq_emod_of_nonneg _ (by omega)]
          rfl
        rw [hf]
        have l2 : p % ns.length < ns.length := Nat.mod_lt _ pos
        refine q_ixL ha (atI_nat (by rw [List.getElem?_map, List.getElem?_eq_getElem l2]; rfl)) ?_
        walk_at "sx"
        refine q_i (cmul_l ⟨by decide, by decide⟩) ?_
        walk_at "sx"
        refine q_i (cmul_l ⟨by decide, by decide⟩) ?_
        walk_at "sx"
        exact src_fin q
def spDraw (K : PySem.W.Frag) : Sp := fun vs H Q _ => ∃ (s : Addr) (n : Int), vs = [.ref s, .int n] ∧ SrcAt H s ∧ 1 ≤ n ∧ n < 1073741824 ∧ ∀ H' (r : Nat), Keep (· = s) H H' → SrcAt H' s → (r : Int) < n → Q (.int r) H'
theorem fmod_r (i : Int) {n : Int} (h : 1 ≤ n) : ∃ r : Nat, i.fmod n = r ∧ (r : Int) < n := by
  have h0 : i.fmod n = i % n := Int.fmod_eq_emod_of_nonneg i (by omega)
  have h1 := Int.emod_nonneg i (b := n) (by omega)
  have h2 := Int.emod_lt_of_pos i (b := n) (by omega)
  exact ⟨(i.fmod n).toNat, by omega, by omega⟩
theorem ok__law_draw (D : Dk K mg "_law_draw" s__law_draw) (fr : Fr mg) : Has P w K mg base CX0 1 "_law_draw" ["_law_source_here", "_law_size"] (spDraw K) := by
  have sc := sc__law_draw
  refine D.has0 sc (fun vs H Q E h => ?_) (fun _ _ _ _ _ _ us hl => match us, hl with | [_, _], _ => rfl) (fun f cdv A outer s H vs Q E hr h => ?_)
  · obtain ⟨s, n, rfl, _⟩ := h
    rfl
  · obtain ⟨s, n, rfl, ⟨c, k, hs⟩, h1, h2, q⟩ := h
    refine ⟨_, (pss_cons (ps_set (i := 2) sc.nd rfl (Or.inl rfl) (pe_ixL (K := K) rfl (pv 0) pe_int (fun _ _ => rfl)))
       (pss_cons (ps_if (pt_cmpR op_ge (pv 2) (pe_op op_pow pe_int pe_int) (nomark _)) (pss_cons (ps_asg (pe_op op_fdivN (pv 2) (pv 1)) (pg_sub (pv 0) pe_int set_list))
       (pss_one (ps_ret (pe_op op_modN (pe_callTy (T := "int") c_int (by rfl) fr.int (by decide +kernel) (pa_cons (pv 2) pa_nil)) (pv 1))))) pss_nil)
       (pss_cons (ps_asg (pe_op op_add (pe_ixL (K := K) rfl (pv 0) pe_int (fun _ _ => rfl)) pe_int) (pg_sub (pv 0) pe_int set_list))
       (pss_cons (ps_set (i := 3) sc.nd rfl (Or.inl rfl) (pe_op op_modN (pe_callTy (T := "int") c_int (by rfl) fr.int (by decide +kernel) (pa_cons (pe_op op_add (pe_op op_add (pv 2) (pe_op op_mul pe_int (pe_ixL (K := K) rfl (pv 0) pe_int (fun _ _ => rfl)))) pe_int) pa_nil)) pe_int))
       (pss_cons (ps_set (i := 3) sc.nd rfl (Or.inl rfl) (pe_op op_modN (pe_callTy (T := "int") c_int (by rfl) fr.int (by decide +kernel) (pa_cons (pe_op op_mul (pv 3) (pe_op op_add (pv 3) pe_int)) pa_nil)) pe_int))
       (pss_cons (ps_set (i := 3) sc.nd rfl (Or.inl rfl) (pe_op op_modN (pe_callTy (T := "int") c_int (by rfl) fr.int (by decide +kernel) (pa_cons (pe_op op_add (pe_op op_mul (pv 3) (pe_op op_add (pv 3) pe_int)) (pe_op op_mul pe_int (pe_ixL (K := K) rfl (pv 0) pe_int (fun _ _ => rfl)))) pa_nil)) pe_int))
       (pss_one (ps_ret (pe_op op_modN (pe_callTy (T := "int") c_int (by rfl) fr.int (by decide +kernel) (pa_cons (pe_op op_fdivN (pv 3) pe_int) pa_nil)) (pv 1)))))))))), ?_⟩
    walk_at "sx"
    refine q_ixL (.of hs) (atI_nat (j := 0) rfl) ?_
    walk_at "sx"
    refine q_i (C := CPow) ⟨by decide, by decide, by decide⟩ ?_
    walk_at "sx"
    refine ifd (fun ge => ?_) (fun lt => ?_)
    · walk_at "sx"
      refine q_i (C := CDivN) ⟨by omega, by omega⟩ ?_
      walk_at "sx"
      refine q_set (j := 0) hs (show 0 < 2 by decide) ?_
      walk_at "sx"
      refine q_i (by omega) ?_
      obtain ⟨r, e, lr⟩ := fmod_r c h1
      rw [e]
      exact q _ r (Keep.upd (Keep.refl _ _) rfl) ⟨_, _, upd_same⟩ lr
    · walk_at "sx"
      refine q_ixL (.of hs) (atI_nat (j := 1) rfl) ?_
      walk_at "sx"
      refine q_set (j := 1) hs (show 1 < 2 by decide) ?_
      have e1 : (upd H s (.lst ([V.int c, V.int k].set 1 (.int (k + 1))))) s = some (.lst [.int c, .int (k + 1)]) := upd_same
      have kp : Keep (· = s) H (upd H s (.lst ([V.int c, V.int k].set 1 (.int (k + 1))))) := Keep.upd (Keep.refl _ _) rfl
      generalize upd H s (.lst ([V.int c, V.int k].set 1 (.int (k + 1)))) = H1 at e1 kp
      walk_at "sx"
      refine q_ixL (.of e1) (atI_nat (j := 1) rfl) ?_
      walk_at "sx"
      refine q_i (cmul_l ⟨by decide, by decide⟩) ?_
      walk_at "sx"
      refine q_i (by decide) ?_
      obtain ⟨m1, e2, l1⟩ := fmod_r (c + 7919 * (k + 1) + 13) (show (1 : Int) ≤ 2147483647 by decide)
      rw [e2]
      walk_at "sx"
      refine q_i (cmul_l ⟨by omega, by omega⟩) ?_
      walk_at "sx"
      refine q_i (by decide) ?_
      obtain ⟨m2, e3, l2⟩ := fmod_r ((m1 : Int) * (m1 + 48271)) (show (1 : Int) ≤ 2147483629 by decide)
      rw [e3]
      walk_at "sx"
      refine q_i (cmul_l ⟨by omega, by omega⟩) ?_
      walk_at "sx"
      refine q_ixL (.of e1) (atI_nat (j := 1) rfl) ?_
      walk_at "sx"
      refine q_i (cmul_l ⟨by decide, by decide⟩) ?_
      walk_at "sx"
      refine q_i (by decide) ?_
      obtain ⟨m3, e4, l3⟩ := fmod_r ((m2 : Int) * (m2 + 69621) + 31 * (k + 1)) (show (1 : Int) ≤ 2147483647 by decide)
      rw [e4]
      walk_at "sx"
      refine q_i (C := CDivN) ⟨by decide, by decide⟩ ?_
      walk_at "sx"
      refine q_i (by omega) ?_
      obtain ⟨r, e, lr⟩ := fmod_r ((m3 : Int).fdiv 9) h1
      rw [e]
      exact q _ r kp ⟨_, _, e1⟩ lr
def spBetween (K : PySem.W.Frag) : Sp := fun vs H Q _ => ∃ (s : Addr) (a b : Int), vs = [.ref s, .int a, .int b] ∧ SrcAt H s ∧ a ≤ b ∧ b - a < 1000000000 ∧ ∀ H' (r : Int), Keep (· = s) H H' → SrcAt H' s → a ≤ r → r ≤ b → Q (.int r) H'
theorem ok__law_between (D : Dk K mg "_law_between" s__law_between) (h__law_draw : Has P w K mg base CX0 1 "_law_draw" ["_law_source_here", "_law_size"] (spDraw K)) : Has P w K mg base CX0 2 "_law_between" ["_law_source_here", "_law_least", "_law_most"] (spBetween K) := by
  have sc := sc__law_between
  refine D.has0 sc (fun vs H Q E h => ?_) (fun _ _ _ _ _ _ us hl => match us, hl with | [_, _, _], _ => rfl) (fun f cdv A outer s H vs Q E hr h => ?_)
  · obtain ⟨s, a, b, rfl, _⟩ := h
    rfl
  · obtain ⟨s, a, b, rfl, hs, h1, h2, q⟩ := h
    refine ⟨_, (pss_one (ps_ret (pe_op op_add (pv 1) (pe_has h__law_draw (hr.mono (by decide)) pass0 (pa_cons (pv 0) (pa_cons (pe_op op_add (pe_op op_sub (pv 2) (pv 1)) pe_int) pa_nil)))))), ?_⟩
    walk_at "sx"
    refine ⟨s, _, rfl, hs, by omega, by omega, fun H' r k1 s1 lr => ?_⟩
    walk_at "sx"
    exact q H' _ k1 s1 (by omega) (by omega)
structure RuleOf (B : Nat → Int) (f s : Nat) (reach : Int) (r : Kw.Row) : Prop where
  rm : r.rm = none
  ends : (r.f = f ∧ r.s = s) ∨ (r.f = s ∧ r.s = f)
  bnd : ∃ a b, r.lo = some a ∧ r.hi = some b ∧ a ≤ B r.s - B r.f ∧ B r.s - B r.f ≤ b ∧ b - a ≤ reach
def spRule (K : PySem.W.Frag) : Sp := fun vs H Q _ => ∃ (s b : Addr) (B : Nat → Int) (n f t : Nat) (reach : Int), vs = [.ref s, .ref b, .int f, .int t, .int reach] ∧ SrcAt H s ∧ b ≠ s ∧ SqL K H b (flV (fun i => .int (B i)) n) ∧ f < n ∧ t < n ∧ 0 ≤ reach ∧ reach < 1000000 ∧
  ∀ H' p r, Keep (· = s) H H' → SrcAt H' s → H p = none → p ≠ s → H' p = some (.tup (row4 r)) → RuleOf B f t reach r → Q (.ref p) H'
theorem ok__law_rule (D : Dk K mg "_law_rule" s__law_rule) (h__law_draw : Has P w K mg base CX0 1 "_law_draw" ["_law_source_here", "_law_size"] (spDraw K)) : Has P w K mg base CX0 2 "_law_rule" ["_law_source_here", "_law_base", "_law_first", "_law_second", "_law_reach"] (spRule K) := by
  have sc := sc__law_rule
  refine D.has0 sc (fun vs H Q E h => ?_) (fun _ _ _ _ _ _ us hl => match us, hl with | [_, _, _, _, _], _ => rfl) (fun f cdv A outer s H vs Q E hr h => ?_)
  · obtain ⟨s, b, B, n, f, t, reach, rfl, _⟩ := h
    rfl
  · obtain ⟨s, b, B, n, f, t, reach, rfl, hs, bs, hb, lf, lt, r0, r1, q⟩ := h
    refine ⟨_, (pss_cons (ps_set (i := 5) sc.nd rfl (Or.inl rfl) (pe_op op_sub (pe_ixL (K := K) rfl (pv 1) (pv 3) (fun _ _ => rfl)) (pe_ixL (K := K) rfl (pv 1) (pv 2) (fun _ _ => rfl))))
       (pss_cons (ps_set (i := 6) sc.nd rfl (Or.inl rfl) (pe_op op_sub (pv 4) (pe_has h__law_draw (hr.mono (by decide)) pass0 (pa_cons (pv 0) (pa_cons (pe_op op_add (pe_has h__law_draw (hr.mono (by decide)) pass0 (pa_cons (pv 0) (pa_cons (pe_op op_add (pv 4) pe_int) pa_nil))) pe_int) pa_nil)))))
       (pss_cons (ps_set (i := 7) sc.nd rfl (Or.inl rfl) (pe_has h__law_draw (hr.mono (by decide)) pass0 (pa_cons (pv 0) (pa_cons (pe_op op_add (pv 6) pe_int) pa_nil))))
       (pss_cons (ps_if (pt_cmpR op_eq (pe_has h__law_draw (hr.mono (by decide)) pass0 (pa_cons (pv 0) (pa_cons pe_int pa_nil))) pe_int (nomark _)) (pss_one (ps_ret (pe_tup (pa_cons (pv 3) (pa_cons (pv 2) (pa_cons (pe_op op_sub (pe_op op_sub (pv 7) (pv 6)) (pv 5)) (pa_cons (pe_op op_sub (pv 7) (pv 5)) pa_nil))))))) pss_nil)
       (pss_one (ps_ret (pe_tup (pa_cons (pv 2) (pa_cons (pv 3) (pa_cons (pe_op op_sub (pv 5) (pv 7)) (pa_cons (pe_op op_sub (pe_op op_add (pv 5) (pv 6)) (pv 7)) pa_nil))))))))))), ?_⟩
    walk_at "sx"
    refine q_ixL hb (atI_nat (flV_get lt)) ?_
    walk_at "sx"
    refine q_ixL hb (atI_nat (flV_get lf)) ?_
    walk_at "sx"
    refine ⟨s, _, rfl, hs, by omega, by omega, fun H1 x1 k1 s1 l1 => ?_⟩
    walk_at "sx"
    refine ⟨s, _, rfl, s1, by omega, by omega, fun H2 x2 k2 s2 l2 => ?_⟩
    walk_at "sx"
    refine ⟨s, _, rfl, s2, by omega, by omega, fun H3 x3 k3 s3 l3 => ?_⟩
    walk_at "sx"
    refine ⟨s, _, rfl, s3, by omega, by omega, fun H4 x4 k4 s4 l4 => ?_⟩
    have kk := ((k1.trans k2).trans k3).trans k4
    walk_at "sx"
    refine ifd (fun e => ?_) (fun e => ?_)
    · walk_at "sx"
      refine ⟨line_le (n := 4) (by decide), fun p np => ?_⟩
      have ps := s4.ne np
      refine q _ p ⟨t, f, some ((x3 : Int) - (reach - x2) - (B t - B f)), some ((x3 : Int) - (B t - B f)), none⟩ (kk.trans (Same.keep (same_upd np))) (s4.same (same_upd np)) (kk.free1 np ps) ps upd_same ⟨rfl, .inr ⟨rfl, rfl⟩, _, _, rfl, rfl, ?_, ?_, ?_⟩
      · show _ ≤ B f - B t
        omega
      · show B f - B t ≤ _
        omega
      · omega
    · walk_at "sx"
      refine ⟨line_le (n := 4) (by decide), fun p np => ?_⟩
      have ps := s4.ne np
      refine q _ p ⟨f, t, some (B t - B f - x3), some (B t - B f + (reach - x2) - x3), none⟩ (kk.trans (Same.keep (same_upd np))) (s4.same (same_upd np)) (kk.free1 np ps) ps upd_same ⟨rfl, .inl ⟨rfl, rfl⟩, _, _, rfl, rfl, ?_, ?_, ?_⟩
      · show _ ≤ B t - B f
        omega
      · show B t - B f ≤ _
        omega
      · omega
end
end Kt

namespace Kt
open PySem PySem.Spec PyProof.Rows L2
section
variable {K : PySem.W.Frag} {σ : L2.St} {H : Hp} {Q : VK} {D : Ends} {tb : TS} {g : TG} {te tt1 : TE} {ta : TA} {xs : List V} {a : Addr}
/-- for k in range(lo, hi) -/
theorem q_forR2 {k : Nat} {lo hi : Int} {n : Nat} (hlo : -(2 ^ 62) ≤ lo ∧ lo < 2 ^ 62) (hhi : -(2 ^ 62) ≤ hi ∧ hi < 2 ^ 62) (hn : (hi - lo).toNat = n) (Pv : Nat → L2.St → Hp → Prop) (h0 : Pv 0 σ H)
    (hs : ∀ i σ' H', i < n → Pv i σ' H' → tb { D with nx := Pv (i + 1), ct := Pv (i + 1), bk := D.nx } (σ'.set k (some (.int (lo + i)))) H') (hd : ∀ σ' H', Pv n σ' H' → D.nx σ' H') (ht : ∀ R : List V → Hp → Prop, R [.int lo, .int hi] H → ta σ H R) : tFor (iRng2 ta) (gName k) tb D σ H := by
  subst hn
  exact ht _ ⟨lo, hi, rfl, ⟨hlo.1, hlo.2, hhi.1, hhi.2⟩, for_range (lo := lo) Pv h0 hs hd⟩
theorem cut_from {i : Nat} (h : i ≤ xs.length) : cutV xs (some (i : Int)) none = xs.drop i := by
  have e : HT.sIx xs.length 0 (some (i : Int)) = i := by
    rw [HT.sIx_nat]
    exact Nat.min_eq_left h
  have e2 : HT.sIx xs.length xs.length none = xs.length := rfl
  unfold cutV
  rw [e, e2, List.take_of_length_le (by rw [List.length_drop]; omega)]
theorem cut_to {i : Nat} (h : i ≤ xs.length) : cutV xs none (some (i : Int)) = xs.take i := by
  have e : HT.sIx xs.length xs.length (some (i : Int)) = i := by
    rw [HT.sIx_nat]
    exact Nat.min_eq_left h
  have e2 : HT.sIx xs.length 0 none = 0 := rfl
  unfold cutV
  rw [e, e2, List.drop_zero, Nat.sub_zero]
theorem q_sl {tl th : TO} (q : te σ H fun x H1 => tl σ H1 fun l H2 => th σ H2 fun u H3 => rSlL K x l u H3 Q) : tSl (rSlL K) te tl th σ H Q := q
theorem q_part {Qo : Option Int → Hp → Prop} (q : te σ H fun x H1 => ∃ i, x = .int i ∧ Qo (some i) H1) : tPart te σ H Qo := q
theorem q_nopart {Qo : Option Int → Hp → Prop} (q : Qo none H) : tNoPart σ H Qo := q
theorem q_slF {i : Nat} (h : SqL K H a xs) (hi : i ≤ xs.length) (q : ∀ p, H p = none → Q (.ref p) (upd H p (.lst (xs.drop i)))) : rSlL K (.ref a) (some (i : Int)) none H Q := ⟨a, xs, rfl, h, by rw [cut_from hi]; exact q⟩
theorem q_slT {i : Nat} (h : SqL K H a xs) (hi : i ≤ xs.length) (q : ∀ p, H p = none → Q (.ref p) (upd H p (.lst (xs.take i)))) : rSlL K (.ref a) none (some (i : Int)) H Q := ⟨a, xs, rfl, h, by rw [cut_to hi]; exact q⟩
end
/-! ### tuples put together -/
section
variable {K : PySem.W.Frag} {H : Hp} {f : Kw.Row → List V} {R S : Nat → Kw.Row} {n m : Nat} {xs ys : List V}
theorem Tups.congr (h : Tups K H f R n xs) (e : ∀ i, i < n → S i = R i) : Tups K H f S n xs := ⟨h.1, fun i hi => by
  rw [e i hi]
  exact h.2 i hi⟩
theorem Tups.cat (h : Tups K H f R n xs) (g : Tups K H f S m ys) : Tups K H f (cat R n S) (n + m) (xs ++ ys) := by
  refine ⟨by rw [List.length_append, h.1, g.1], fun i hi => ?_⟩
  by_cases z : i < n
  · rw [cat_l z, List.getElem?_append_left (by rw [h.1]; exact z)]
    exact h.2 i z
  · have e : Kt.cat R n S i = S (i - n) := if_neg z
    rw [e, List.getElem?_append_right (by rw [h.1]; omega), h.1]
    exact g.2 _ (by omega)
theorem Tups.drop (h : Tups K H f R n xs) {k : Nat} (hk : k ≤ n) : Tups K H f (fun i => R (k + i)) (n - k) (xs.drop k) := by
  refine ⟨by rw [List.length_drop, h.1], fun i hi => ?_⟩
  rw [List.getElem?_drop]
  exact h.2 _ (by omega)
theorem Tups.take (h : Tups K H f R n xs) {k : Nat} (hk : k ≤ n) : Tups K H f R k (xs.take k) := by
  refine ⟨by rw [List.length_take, h.1]; omega, fun i hi => ?_⟩
  rw [List.getElem?_take_of_lt hi]
  exact h.2 _ (by omega)
theorem Tups.snoc (h : Tups K H f R n xs) {p : Addr} {r : Kw.Row} (e : SqT K H p (f r)) : Tups K H f (Kw.put R n r) (n + 1) (xs ++ [.ref p]) := by
  refine ⟨by rw [List.length_append, h.1]; rfl, fun i hi => ?_⟩
  by_cases z : i = n
  · subst z
    refine ⟨p, ?_, by rw [Kw.put_same]; exact e⟩
    rw [← h.1, List.getElem?_append_right (Nat.le_refl _), Nat.sub_self]
    rfl
  · obtain ⟨q, e1, e2⟩ := h.2 i (by omega)
    refine ⟨q, ?_, by rw [Kw.put_ne z]; exact e2⟩
    rw [List.getElem?_append_left (by rw [h.1]; omega)]
    exact e1
theorem Tups.keep {W : Addr → Prop} {H' : Hp} (h : Tups K H f R n xs) (k : Keep W H H') (l : ∀ b, W b → ∃ xs, H b = some (.lst xs)) : Tups K H' f R n xs := ⟨h.1, fun i hi => by
  obtain ⟨p, e1, e2⟩ := h.2 i hi
  exact ⟨p, e1, k.sqt l e2⟩⟩
theorem Tups.nil : Tups K H f R 0 [] := ⟨rfl, fun i hi => absurd hi (Nat.not_lt_zero _)⟩
theorem one_lst {H0 : Hp} {a : Addr} {ys : List V} (h : H0 a = some (.lst ys)) : ∀ b, b = a → ∃ xs, H0 b = some (.lst xs) := fun b z => ⟨ys, by rw [z]; exact h⟩
theorem SrcAt.lst {H0 : Hp} {s : Addr} (h : SrcAt H0 s) : ∀ b, b = s → ∃ xs, H0 b = some (.lst xs) := by
  obtain ⟨c, k, e⟩ := h
  exact one_lst e
theorem Keep.mut {W : Addr → Prop} {H0 H1 : Hp} {a : Addr} {o : HO} (k : Keep W H0 H1) (n : H0 a = none) : Keep W H0 (L2.upd H1 a o) := fun b u w e => by
  rw [upd_ne (ne_of_none e n)]
  exact k b u w e
theorem Keep.freeW {W : Addr → Prop} {H0 H1 : Hp} {a : Addr} (k : Keep W H0 H1) (n : H1 a = none) (w : ¬ W a) : H0 a = none := by
  cases z : H0 a with
  | none => rfl
  | some o =>
    rw [k a o w z] at n
    cases n
end
end Kt

namespace Kt
open PySem PySem.Spec PyProof.Rows L2
local macro_rules
  | `(tactic| walk_at "sx") => `(tactic| repeat (first
    | with_reducible refine q_seq ?_ | with_reducible refine q_par ?_ | with_reducible refine q_augS ?_ | with_reducible refine q_rev ?_ | with_reducible refine q_yes ?_ | with_reducible refine q_gname ?_ | with_reducible refine q_setG ?_ | with_reducible refine q_ip ?_ | with_reducible refine q_asg ?_ | with_reducible refine q_asgG ?_ | with_reducible refine q_ret ?_ | with_reducible refine q_drop ?_ | with_reducible refine q_if ?_ | with_reducible refine q_next ?_
    | with_reducible refine q_test ?_ | with_reducible refine q_tB ?_ | with_reducible refine q_chain ?_ | with_reducible refine q_andV ?_ | with_reducible refine q_bl ?_ | with_reducible refine q_exint ?_ | ((with_reducible show tAug _ _ _ _ _ _); refine q_aug rfl ?_) | with_reducible refine q_not ?_ | with_reducible refine q_and ?_ | with_reducible refine q_or ?_
    | with_reducible refine q_op ?_ | with_reducible refine q_un ?_ | with_reducible refine q_c ?_ | ((with_reducible show tVar _ _ _ _); refine q_var rfl ?_)
    | with_reducible refine q_i0 ?_ | with_reducible refine q_u ?_ | with_reducible refine q_eq ?_ | with_reducible refine q_ne ?_ | with_reducible refine q_isN ?_ | with_reducible refine q_notN ?_ | with_reducible refine q_min2 ?_ | with_reducible refine q_abs ?_ | with_reducible refine q_int ?_
    | with_reducible refine q_nil ?_ | with_reducible refine q_cons ?_ | with_reducible refine q_tup ?_ | with_reducible refine q_lst ?_ | with_reducible refine q_call ?_ | with_reducible refine q_makeN ?_ | with_reducible refine q_make ?_ | with_reducible refine q_cb ?_
    | ((with_reducible show ite _ _ _); first | refine ift rfl ?_ | refine iff' rfl ?_)))
-- slots: 0 _law_source_here 1 _law_size 2 _law_reach 3 _law_far 4 _law_base 5 _law_rules_here 6 _law_node 7 _law_other 8 _law_first 9 _law_second 10 _law_turn
abbrev s__law_rules : Stmt := topS 48
theorem sc__law_rules : FnScope ["_law_source_here", "_law_size", "_law_reach", "_law_far", "_law_base", "_law_rules_here", "_law_node", "_law_other", "_law_first", "_law_second", "_law_turn"] ["_law_source_here", "_law_size", "_law_reach", "_law_far"] (defScope s__law_rules) := ⟨rfl, rfl, rfl, by decide +kernel, rfl, by decide +kernel, by decide +kernel⟩
/-- one rule as drawn over the base world -/
structure Rl (n : Nat) (B : Nat → Int) (r : Kw.Row) : Prop where
  f : r.f < n
  s : r.s < n
  ne : r.f ≠ r.s
  rm : r.rm = none
  bnd : ∃ a b, r.lo = some a ∧ r.hi = some b ∧ a ≤ B r.s - B r.f ∧ B r.s - B r.f ≤ b
def Join (r : Kw.Row) (u v : Nat) : Prop := (r.f = v ∧ r.s = u) ∨ (r.f = u ∧ r.s = v)
/-- its width and one more is at most 2 ^ e -/
def Nar (r : Kw.Row) (e : Nat) : Prop := ∃ a b, r.lo = some a ∧ r.hi = some b ∧ b - a + 1 ≤ 2 ^ e
structure RSet (n h : Nat) (R : Nat → Kw.Row) (B : Nat → Int) (E : Nat → Nat) : Prop where
  rl : ∀ i, i < h → Rl n B (R i)
  tree : ∀ v, 0 < v → v < n → ∃ i, i < h ∧ ∃ u, u < v ∧ Join (R i) u v ∧ Nar (R i) (E v)
theorem Rl.of {n : Nat} {B : Nat → Int} {f s : Nat} {reach : Int} {r : Kw.Row} (h : RuleOf B f s reach r) (hf : f < n) (hs : s < n) (ne : f ≠ s) : Rl n B r := by
  obtain ⟨a, b, e1, e2, h1, h2, _⟩ := h.bnd
  rcases h.ends with ⟨z1, z2⟩ | ⟨z1, z2⟩
  · exact ⟨by omega, by omega, by omega, h.rm, a, b, e1, e2, h1, h2⟩
  · exact ⟨by omega, by omega, by omega, h.rm, a, b, e1, e2, h1, h2⟩
theorem Rl.wider {n m : Nat} {B B' : Nat → Int} {r : Kw.Row} (h : Rl n B r) (le : n ≤ m) (e : ∀ v, v < n → B' v = B v) : Rl m B' r := by
  obtain ⟨a, b, e1, e2, h1, h2⟩ := h.bnd
  have := h.f
  have := h.s
  exact ⟨by omega, by omega, h.ne, h.rm, a, b, e1, e2, by rw [e _ h.f, e _ h.s]; exact h1, by rw [e _ h.f, e _ h.s]; exact h2⟩
theorem RSet.perm {n h : Nat} {R R' : Nat → Kw.Row} {B : Nat → Int} {E : Nat → Nat} (s : RSet n h R B E) (h1 : ∀ i, i < h → ∃ j, j < h ∧ R' i = R j) (h2 : ∀ j, j < h → ∃ i, i < h ∧ R' i = R j) : RSet n h R' B E := by
  refine ⟨fun i hi => ?_, fun v hv hn => ?_⟩
  · obtain ⟨j, hj, e⟩ := h1 i hi
    rw [e]
    exact s.rl j hj
  · obtain ⟨j, hj, u, hu, z⟩ := s.tree v hv hn
    obtain ⟨i, hi, e⟩ := h2 j hj
    exact ⟨i, hi, u, hu, by rw [e]; exact z⟩
theorem RSet.rot {n h t : Nat} {R : Nat → Kw.Row} {B : Nat → Int} {E : Nat → Nat} (s : RSet n h R B E) (ht : t ≤ h) : RSet n h (cat (fun i => R (t + i)) (h - t) R) B E := by
  have r1 : ∀ i, i < h - t → cat (fun i => R (t + i)) (h - t) R i = R (t + i) := fun i hi => cat_l hi
  have r2 : ∀ i, cat (fun i => R (t + i)) (h - t) R (h - t + i) = R i := fun i => cat_r
  refine s.perm (fun i hi => ?_) fun j hj => ?_
  · by_cases z : i < h - t
    · exact ⟨t + i, by omega, r1 i z⟩
    · refine ⟨i - (h - t), by omega, ?_⟩
      have := r2 (i - (h - t))
      rw [show h - t + (i - (h - t)) = i by omega] at this
      exact this
  · by_cases z : j < t
    · exact ⟨h - t + j, by omega, r2 j⟩
    · refine ⟨j - t, by omega, ?_⟩
      have := r1 (j - t) (by omega)
      rw [show t + (j - t) = j by omega] at this
      exact this
theorem RSet.add {n h : Nat} {R : Nat → Kw.Row} {B : Nat → Int} {E : Nat → Nat} (s : RSet n h R B E) {r : Kw.Row} (hr : Rl n B r) : RSet n (h + 1) (Kw.put R h r) B E := by
  refine ⟨fun i hi => ?_, fun v hv hn => ?_⟩
  · by_cases z : i = h
    · rw [z, Kw.put_same]
      exact hr
    · rw [Kw.put_ne z]
      exact s.rl i (by omega)
  · obtain ⟨j, hj, u, hu, z⟩ := s.tree v hv hn
    exact ⟨j, by omega, u, hu, by rw [Kw.put_ne (by omega)]; exact z⟩
section
variable {P : Program} {w : World} {K : PySem.W.Frag} {mg : Str → Option Value} {base : Heap}
def spRules (K : PySem.W.Frag) : Sp := fun vs H Q _ => ∃ (s : Addr) (n e : Nat) (reach far : Int), vs = [.ref s, .int n, .int reach, .int far] ∧ SrcAt H s ∧ 1 ≤ n ∧ n ≤ 16 ∧ 0 ≤ reach ∧ reach ≤ 20 ∧ 0 ≤ far ∧ far ≤ 100000000 ∧ reach + 1 ≤ 2 ^ e ∧
  ∀ H' o ba ra xs R B h, Keep (· = s) H H' → H o = none → H' o = some (.lst [.ref ba, .ref ra]) → H ba = none → H' ba = some (.lst (flV (fun i => .int (B i)) n)) → H ra = none → H' ra = some (.lst xs) → Tups K H' row4 R h xs → h ≤ n → RSet n h R B (fun _ => e) → B 0 = 0 → (∀ v, v < n → -(16 * 100000000) ≤ B v ∧ B v ≤ 16 * 100000000) → Q (.ref o) H'
theorem ok__law_rules (D : Dk K mg "_law_rules" s__law_rules) (fr : Fr mg) (h__law_draw : Has P w K mg base CX0 1 "_law_draw" ["_law_source_here", "_law_size"] (spDraw K)) (h__law_between : Has P w K mg base CX0 2 "_law_between" ["_law_source_here", "_law_least", "_law_most"] (spBetween K))
    (h__law_rule : Has P w K mg base CX0 2 "_law_rule" ["_law_source_here", "_law_base", "_law_first", "_law_second", "_law_reach"] (spRule K)) : Has P w K mg base CX0 3 "_law_rules" ["_law_source_here", "_law_size", "_law_reach", "_law_far"] (spRules K) := by
  have sc := sc__law_rules
  refine D.has0 sc (fun vs H Q E h => ?_) (fun _ _ _ _ _ _ us hl => match us, hl with | [_, _, _, _], _ => rfl) (fun f cdv A outer s0 H vs Q E hr h => ?_)
  · obtain ⟨s, n, e, reach, far, rfl, _⟩ := h
    rfl
  · obtain ⟨s, n, e, reach, far, rfl, hs, n1, n16, r0, r1, f0, f1, he, q⟩ := h
    refine ⟨_, (pss_cons (ps_set (i := 4) sc.nd rfl (Or.inl rfl) (pe_lst (pa_cons pe_int pa_nil)))
       (pss_cons (ps_set (i := 5) sc.nd rfl (Or.inl rfl) (pe_lst pa_nil))
       (pss_cons (ps_for PassesOwn.never rfl (pi_range2 (by rfl) fr.range (pa_cons pe_int (pa_cons (pv 1) pa_nil))) (pg_name (i := 6) sc.nd rfl (Or.inl rfl))
        (pss_cons (ps_set (i := 7) sc.nd rfl (Or.inl rfl) (pe_has h__law_draw (hr.mono (by decide)) pass0 (pa_cons (pv 0) (pa_cons (pv 6) pa_nil))))
       (pss_cons (ps_expr (bmK (K := K) (pe_bm PySem.F.plainAttrs_list PySem.F.slot_list_append PySem.F.type_list_append mt_append (pv 4) (pa_cons (pe_op op_add (pe_ixL (K := K) rfl (pv 4) (pv 7) (fun _ _ => rfl)) (pe_has h__law_between (hr.mono (by decide)) pass0 (pa_cons (pv 0) (pa_cons (pe_op op_sub pe_int (pv 3)) (pa_cons (pv 3) pa_nil))))) pa_nil)) rfl))
       (pss_one (ps_expr (bmK (K := K) (pe_bm PySem.F.plainAttrs_list PySem.F.slot_list_append PySem.F.type_list_append mt_append (pv 5) (pa_cons (pe_has h__law_rule (hr.mono (by decide)) pass0 (pa_cons (pv 0) (pa_cons (pv 4) (pa_cons (pv 7) (pa_cons (pv 6) (pa_cons (pv 2) pa_nil)))))) pa_nil)) rfl))))))
       (pss_mid (ps_if (PW.pt (pw_and (pt_cmpR op_gt (pv 1) pe_int (nomark _)) (pw_and1 (pt_cmpR op_eq (pe_has h__law_draw (hr.mono (by decide)) pass0 (pa_cons (pv 0) (pa_cons pe_int pa_nil))) pe_int (nomark _))))) (pss_cons (ps_set (i := 8) sc.nd rfl (Or.inl rfl) (pe_has h__law_draw (hr.mono (by decide)) pass0 (pa_cons (pv 0) (pa_cons (pv 1) pa_nil))))
       (pss_cons (ps_set (i := 9) sc.nd rfl (Or.inl rfl) (pe_op op_modN (pe_callTy (T := "int") c_int (by rfl) fr.int (by decide +kernel) (pa_cons (pe_op op_add (pe_op op_add (pv 8) pe_int) (pe_has h__law_draw (hr.mono (by decide)) pass0 (pa_cons (pv 0) (pa_cons (pe_op op_sub (pv 1) pe_int) pa_nil)))) pa_nil)) (pv 1)))
       (pss_one (ps_expr (bmK (K := K) (pe_bm PySem.F.plainAttrs_list PySem.F.slot_list_append PySem.F.type_list_append mt_append (pv 5) (pa_cons (pe_has h__law_rule (hr.mono (by decide)) pass0 (pa_cons (pv 0) (pa_cons (pv 4) (pa_cons (pv 8) (pa_cons (pv 9) (pa_cons (pv 2) pa_nil)))))) pa_nil)) rfl))))) pss_nil)
       (pss_cons (ps_set (i := 10) sc.nd rfl (Or.inl rfl) (pe_has h__law_draw (hr.mono (by decide)) pass0 (pa_cons (pv 0) (pa_cons (pe_op op_add (pe_callB (id := "len") (c_len (K := K) rfl) (by rfl) fr.len (by decide +kernel) (pa_cons (pv 5) pa_nil)) pe_int) pa_nil))))
       (pss_one (ps_ret (pe_lst (pa_cons (pv 4) (pa_cons (pe_op op_cat (pe_slice sl_list (pv 5) (po_some (pv 10)) po_none) (pe_slice sl_list (pv 5) po_none (po_some (pv 10)))) pa_nil)))))))))), ?_⟩
    walk_at "sx"
    refine ⟨line_le (n := 1) (by decide), fun ba nba => ?_⟩
    walk_at "sx"
    refine ⟨line_le (n := 0) (by decide), fun ra nra => ?_⟩
    have nra0 : H ra = none := (same_upd nba).free nra
    have bra : ba ≠ ra := ne_of_none upd_same nra
    have s00 : Same H (upd (upd H ba (.lst [.int 0])) ra (.lst [])) := (same_upd nba).trans (same_upd nra)
    have hs0 := hs.same s00
    have bs : ba ≠ s := hs.ne nba
    have rs : ra ≠ s := hs.ne nra0
    walk_at "sx"
    refine q_forR2 (lo := 1) (hi := n) (n := n - 1) ⟨by decide, by decide⟩ ⟨by omega, by omega⟩ (by omega) (fun i σ H' => ∃ y6 y7, ∃ B R xs, σ = [some (.ref s), some (.int n), some (.int reach), some (.int far), some (.ref ba), some (.ref ra), y6, y7, none, none, none] ∧ Keep (· = s) H H' ∧ SrcAt H' s ∧
      H' ba = some (.lst (flV (fun j => .int (B j)) (i + 1))) ∧ H' ra = some (.lst xs) ∧ Tups K H' row4 R i xs ∧ RSet (i + 1) i R B (fun _ => e) ∧ B 0 = 0 ∧ ∀ v : Nat, v ≤ i → -((v : Int) * 100000000) ≤ B v ∧ B v ≤ v * 100000000) ?_ ?_ ?_ (fun R r => ⟨_, rfl, r⟩)
    · refine ⟨_, _, fun _ => 0, fun _ => ⟨0, 0, none, none, none⟩, [], rfl, Same.keep s00, hs0, ?_, upd_same, Tups.nil, ⟨fun i hi => absurd hi (Nat.not_lt_zero _), fun v hv hn => absurd hv (by omega)⟩, rfl, fun v hv => ⟨by show -((v : Int) * 100000000) ≤ (0 : Int); omega, by show (0 : Int) ≤ (v : Int) * 100000000; omega⟩⟩
      rw [upd_ne bra, upd_same]
      rfl
    · rintro i σ H' hi ⟨y6, y7, B, R, xs, rfl, k1, s1, hb, hra, ht, rset, b0, bb⟩
      walk_at "sx"
      refine ⟨s, _, rfl, s1, by omega, by omega, fun H1 x1 k2 s2 l2 => ?_⟩
      have l2 : x1 < i + 1 := by omega
      walk_at "sx"
      refine q_appV rfl (k2 _ _ bs hb) ?_
      walk_at "sx"
      refine q_ixL (.of (k2 _ _ bs hb)) (atI_nat (flV_get l2)) ?_
      walk_at "sx"
      refine ⟨s, _, _, rfl, s2, by omega, by omega, fun H2 x3 k3 s3 g1 g2 => ?_⟩
      walk_at "sx"
      have k23 := k2.trans k3
      refine q_rapp (k23 _ _ bs hb) (by rw [flV_len]; exact line_of (by omega)) ?_
      -- the base world grows
      obtain ⟨B1, hB1⟩ : ∃ B1, B1 = Kw.put B (i + 1) (B x1 + x3) := ⟨_, rfl⟩
      have eb : flV (fun j => V.int (B j)) (i + 1) ++ [V.int (B x1 + x3)] = flV (fun j => .int (B1 j)) (i + 2) := by
        rw [← flV_snoc (fun j => V.int (B1 j)) (i + 1), hB1, Kw.put_same]
        congr 1
        exact flV_congr fun j hj => by rw [Kw.put_ne (by omega)]
      rw [eb]
      have k4 : Keep (· = s) H (upd H2 ba (.lst (flV (fun j => .int (B1 j)) (i + 2)))) := (k1.trans k23).mut nba
      have s4 : SrcAt (upd H2 ba (.lst (flV (fun j => .int (B1 j)) (i + 2)))) s := by
        obtain ⟨c, k, z⟩ := s3
        exact ⟨c, k, by rw [upd_ne bs.symm]; exact z⟩
      have hb4 : (upd H2 ba (.lst (flV (fun j => .int (B1 j)) (i + 2)))) ba = some (.lst (flV (fun j => .int (B1 j)) (i + 2))) := upd_same
      have hr4 : (upd H2 ba (.lst (flV (fun j => .int (B1 j)) (i + 2)))) ra = some (.lst xs) := by
        rw [upd_ne bra.symm]
        exact k23 _ _ rs hra
      have ht4 : Tups K (upd H2 ba (.lst (flV (fun j => .int (B1 j)) (i + 2)))) row4 R i xs := by
        have t2 : Tups K H2 row4 R i xs := ht.keep k23 s1.lst
        exact t2.keep (W := (· = ba)) ((Keep.refl _ _).upd rfl) (one_lst (k23 _ _ bs hb))
      generalize upd H2 ba (.lst (flV (fun j => .int (B1 j)) (i + 2))) = H4 at k4 s4 hb4 hr4 ht4
      walk_at "sx"
      refine q_appV rfl hr4 ?_
      walk_at "sx"
      refine ⟨s, ba, B1, i + 2, x1, i + 1, reach, ?_, s4, bs, .of hb4, by omega, by omega, r0, by omega, fun H5 p r k5 s5 np ps hp rr => ?_⟩
      · rw [show (1 : Int) + (i : Int) = ((i + 1 : Nat) : Int) by omega]
      walk_at "sx"
      have hr5 := k5 _ _ rs hr4
      refine q_rapp hr5 ?_ ?_
      · rw [ht4.1]
        exact line_of (by omega)
      have ht5 : Tups K H5 row4 R i xs := ht4.keep k5 s4.lst
      have kp : Keep (· = ra) H5 (upd H5 ra (.lst (xs ++ [.ref p]))) := (Keep.refl _ _).upd rfl
      have lr : ∀ b, b = ra → ∃ xs, H5 b = some (.lst xs) := one_lst hr5
      have hBv : ∀ v, v < i + 1 → B1 v = B v := fun v hv => by rw [hB1, Kw.put_ne (by omega)]
      walk_at "sx"
      refine ⟨_, _, B1, Kw.put R i r, xs ++ [.ref p], rfl, (k4.trans k5).mut nra0, ?_, ?_, upd_same, (ht5.snoc (.of hp)).keep kp lr, ⟨fun j hj => ?_, fun v hv hn => ?_⟩, ?_, fun v hv => ?_⟩
      · obtain ⟨c, k, z⟩ := s5
        exact ⟨c, k, by rw [upd_ne rs.symm]; exact z⟩
      · rw [upd_ne bra]
        exact k5 _ _ bs hb4
      · by_cases z : j = i
        · rw [z, Kw.put_same]
          exact Rl.of rr (by omega) (by omega) (by omega)
        · rw [Kw.put_ne z]
          exact (rset.rl j (by omega)).wider (by omega) hBv
      · by_cases z : v = i + 1
        · subst z
          refine ⟨i, by omega, x1, by omega, ?_, ?_⟩
          · rw [Kw.put_same]
            rcases rr.ends with ⟨z1, z2⟩ | ⟨z1, z2⟩
            · exact .inr ⟨z1, z2⟩
            · exact .inl ⟨z1, z2⟩
          · rw [Kw.put_same]
            obtain ⟨a, b, e1, e2, _, _, z⟩ := rr.bnd
            exact ⟨a, b, e1, e2, by omega⟩
        · obtain ⟨j, hj, u, hu, z2⟩ := rset.tree v hv (by omega)
          exact ⟨j, by omega, u, hu, by rw [Kw.put_ne (by omega)]; exact z2⟩
      · rw [hBv 0 (by omega)]
        exact b0
      · by_cases z : v = i + 1
        · subst z
          rw [hB1, Kw.put_same]
          have := bb x1 (by omega)
          have : (x1 : Int) * 100000000 ≤ (i : Int) * 100000000 := by omega
          omega
        · rw [hBv v (by omega)]
          exact bb v (by omega)
    · rintro σ H' ⟨y6, y7, B, R, xs, rfl, k1, s1, hb, hra, ht, rset, b0, bb⟩
      rw [show n - 1 + 1 = n by omega] at hb rset
      refine ⟨fun σ H' => ∃ y6 y7 y8 y9, ∃ R xs, ∃ h : Nat, σ = [some (.ref s), some (.int n), some (.int reach), some (.int far), some (.ref ba), some (.ref ra), y6, y7, y8, y9, none] ∧ Keep (· = s) H H' ∧ SrcAt H' s ∧
        H' ba = some (.lst (flV (fun j => .int (B j)) n)) ∧ H' ra = some (.lst xs) ∧ Tups K H' row4 R h xs ∧ h ≤ n ∧ RSet n h R B (fun _ => e), ?_, ?_⟩
      · walk_at "sx"
        refine ifd (fun gt => ?_) (fun le => ?_)
        · walk_at "sx"
          refine ⟨s, _, rfl, s1, by omega, by omega, fun H1 x1 k2 s2 l2 => ?_⟩
          have lst2 : ∀ b, b = s → ∃ xs, H' b = some (.lst xs) := s1.lst
          walk_at "sx"
          refine ifd (fun e1 => ?_) (fun e1 => ?_)
          · walk_at "sx"
            refine ⟨s, _, rfl, s2, by omega, by omega, fun H3 x3 k3 s3 l3 => ?_⟩
            walk_at "sx"
            refine ⟨s, _, rfl, s3, by omega, by omega, fun H4 x4 k4 s4 l4 => ?_⟩
            walk_at "sx"
            refine q_i (by omega) ?_
            obtain ⟨x5, e5, l5⟩ := fmod_r ((x3 : Int) + 1 + x4) (show (1 : Int) ≤ n by omega)
            have ne5 : x3 ≠ x5 := fun z => by
              have h1 : ((x3 : Int) + 1 + x4).fmod n = ((x3 : Int) + 1 + x4) % n := Int.fmod_eq_emod_of_nonneg _ (by omega)
              rw [h1] at e5
              by_cases c : (x3 : Int) + 1 + x4 < n
              · rw [Int.emod_eq_of_lt (by omega) c] at e5
                omega
              · have h2 : ((x3 : Int) + 1 + x4) % n = (x3 : Int) + 1 + x4 - n := by
                  rw [← Int.sub_emod_right, Int.emod_eq_of_lt (by omega) (by omega)]
                omega
            rw [e5]
            have k24 := (k2.trans k3).trans k4
            walk_at "sx"
            refine q_appV rfl (k24 _ _ rs hra) ?_
            walk_at "sx"
            refine ⟨s, ba, B, n, x3, x5, reach, rfl, s4, bs, .of (k24 _ _ bs hb), by omega, by omega, r0, by omega, fun H5 p r k5 s5 np ps hp rr => ?_⟩
            walk_at "sx"
            have k25 := k24.trans k5
            have hr5 := k25 _ _ rs hra
            refine q_rapp hr5 (by rw [ht.1]; exact line_of (by omega)) ?_
            walk_at "sx"
            have ht5 : Tups K H5 row4 R (n - 1) xs := ht.keep k25 lst2
            have kp : Keep (· = ra) H5 (upd H5 ra (.lst (xs ++ [.ref p]))) := (Keep.refl _ _).upd rfl
            have lr : ∀ b, b = ra → ∃ xs, H5 b = some (.lst xs) := one_lst hr5
            refine ⟨_, _, _, _, Kw.put R (n - 1) r, xs ++ [.ref p], n - 1 + 1, rfl, (k1.trans k25).mut nra0, ?_, ?_, upd_same, (ht5.snoc (.of hp)).keep kp lr, by omega, rset.add (Rl.of rr (by omega) (by omega) ne5)⟩
            · obtain ⟨c, k, z⟩ := s5
              exact ⟨c, k, by rw [upd_ne rs.symm]; exact z⟩
            · rw [upd_ne bra]
              exact k25 _ _ bs hb
          · walk_at "sx"
            exact ⟨_, _, _, _, R, xs, n - 1, rfl, k1.trans k2, s2, k2 _ _ bs hb, k2 _ _ rs hra, ht.keep k2 lst2, by omega, rset⟩
        · walk_at "sx"
          exact ⟨_, _, _, _, R, xs, n - 1, rfl, k1, s1, hb, hra, ht, by omega, rset⟩
      · rintro σ H2 ⟨y6, y7, y8, y9, R, xs, h, rfl, k2, s2, hb, hra, ht, hh, rset⟩
        walk_at "sx"
        refine q_len (.of hra) ?_
        walk_at "sx"
        rw [ht.1]
        refine ⟨s, _, rfl, s2, by omega, by omega, fun H3 x3 k3 s3 l3 => ?_⟩
        have l3 : x3 ≤ h := by omega
        have lst2 : ∀ b, b = s → ∃ xs, H2 b = some (.lst xs) := s2.lst
        have hr3 := k3 _ _ rs hra
        have hb3 := k3 _ _ bs hb
        have ht3 := ht.keep k3 lst2
        walk_at "sx"
        refine q_sl ?_
        walk_at "sx"
        refine q_part ?_
        walk_at "sx"
        refine q_nopart ?_
        refine q_slF (.of hr3) (by rw [ht.1]; exact l3) fun p1 np1 => ?_
        have t1 : Same H3 (upd H3 p1 (.lst (xs.drop x3))) := same_upd np1
        refine q_sl ?_
        walk_at "sx"
        refine q_nopart ?_
        refine q_part ?_
        walk_at "sx"
        refine q_slT (.of (t1 _ _ hr3)) (by rw [ht.1]; exact l3) fun p2 np2 => ?_
        have t2 := same_upd (o := .lst (xs.take x3)) np2
        refine ⟨p1, p2, xs.drop x3, xs.take x3, rfl, rfl, t2 _ _ upd_same, upd_same, ?_, fun o no => ?_⟩
        · rw [List.length_drop, List.length_take, ht.1]
          exact line_le (by omega)
        have t3 := same_upd (o := .lst (xs.drop x3 ++ xs.take x3)) no
        have t13 := (t1.trans t2).trans t3
        walk_at "sx"
        refine ⟨line_le (n := 2) (by decide), fun fin nfin => ?_⟩
        have t4 := same_upd (o := .lst [.ref ba, .ref o]) nfin
        have kk := (k2.trans k3).trans (Same.keep (t13.trans t4))
        have nof : ∀ {b}, H3 b = none → H b = none := fun {b} z => (k2.trans k3).freeW z (s3.ne z)
        have no3 : H3 o = none := (t1.trans t2).free no
        have nf3 : H3 fin = none := t13.free nfin
        have ht4 := ((ht3.same (t13.trans t4)).drop l3).cat ((ht3.same (t13.trans t4)).take l3)
        rw [show h - x3 + x3 = h by omega] at ht4
        refine q _ fin ba o _ _ B h kk (nof nf3) upd_same nba (t4 _ _ (t13 _ _ hb3)) (nof no3) (t4 _ _ upd_same) ht4 hh (rset.rot l3) b0 fun v hv => ?_
        have := bb v (by omega)
        omega
end
end Kt

namespace Kt
open PySem PySem.Spec PyProof.Rows L2
local macro_rules
  | `(tactic| walk_at "sx") => `(tactic| repeat (first
    | with_reducible refine q_seq ?_ | with_reducible refine q_par ?_ | with_reducible refine q_augS ?_ | with_reducible refine q_rev ?_ | with_reducible refine q_yes ?_ | with_reducible refine q_gname ?_ | with_reducible refine q_setG ?_ | with_reducible refine q_ip ?_ | with_reducible refine q_asg ?_ | with_reducible refine q_asgG ?_ | with_reducible refine q_ret ?_ | with_reducible refine q_drop ?_ | with_reducible refine q_if ?_ | with_reducible refine q_next ?_
    | with_reducible refine q_test ?_ | with_reducible refine q_tB ?_ | with_reducible refine q_chain ?_ | with_reducible refine q_andV ?_ | with_reducible refine q_bl ?_ | with_reducible refine q_exint ?_ | ((with_reducible show tAug _ _ _ _ _ _); refine q_aug rfl ?_) | with_reducible refine q_not ?_ | with_reducible refine q_and ?_ | with_reducible refine q_or ?_
    | with_reducible refine q_op ?_ | with_reducible refine q_un ?_ | with_reducible refine q_c ?_ | ((with_reducible show tVar _ _ _ _); refine q_var rfl ?_)
    | with_reducible refine q_i0 ?_ | with_reducible refine q_u ?_ | with_reducible refine q_eq ?_ | with_reducible refine q_ne ?_ | with_reducible refine q_isN ?_ | with_reducible refine q_notN ?_ | with_reducible refine q_min2 ?_ | with_reducible refine q_abs ?_ | with_reducible refine q_int ?_
    | with_reducible refine q_nil ?_ | with_reducible refine q_cons ?_ | with_reducible refine q_tup ?_ | with_reducible refine q_lst ?_ | with_reducible refine q_call ?_ | with_reducible refine q_makeN ?_ | with_reducible refine q_make ?_ | with_reducible refine q_cb ?_
    | ((with_reducible show ite _ _ _); first | refine ift rfl ?_ | refine iff' rfl ?_)))
-- slots: 0 _law_tell 1 _law_shift 2 _law_low 3 _law_high
abbrev s__law_moved : Stmt := topS 58
theorem sc__law_moved : FnScope ["_law_tell", "_law_shift", "_law_low", "_law_high"] ["_law_tell", "_law_shift"] (defScope s__law_moved) := ⟨rfl, rfl, rfl, by decide +kernel, rfl, by decide +kernel, by decide +kernel⟩
-- slots: 0 _law_source_here 1 _law_size 2 _law_count 3 _law_base 4 _law_reach 5 _law_tells_here 6 _law_index 7 _law_first 8 _law_second 9 _law_gap 10 _law_low 11 _law_high 12 _law_shape
abbrev s__law_tells : Stmt := topS 49
theorem sc__law_tells : FnScope ["_law_source_here", "_law_size", "_law_count", "_law_base", "_law_reach", "_law_tells_here", "_law_index", "_law_first", "_law_second", "_law_gap", "_law_low", "_law_high", "_law_shape"] ["_law_source_here", "_law_size", "_law_count", "_law_base", "_law_reach"] (defScope s__law_tells) := ⟨rfl, rfl, rfl, by decide +kernel, rfl, by decide +kernel, by decide +kernel⟩
-- slots: 0 _law_source_here 1 _law_rules_here 2 _law_place 3 _law_row 4 _law_wide
abbrev s__law_wider : Stmt := topS 59
theorem sc__law_wider : FnScope ["_law_source_here", "_law_rules_here", "_law_place", "_law_row", "_law_wide"] ["_law_source_here", "_law_rules_here"] (defScope s__law_wider) := ⟨rfl, rfl, rfl, by decide +kernel, rfl, by decide +kernel, by decide +kernel⟩
/-- a tell -/
structure Tel (n : Nat) (r : Kw.Row) : Prop where
  f : r.f < n
  s : r.s < n
  le : ∀ a b, r.lo = some a → r.hi = some b → a ≤ b
  rm : ∃ w, r.rm = some w ∧ 1 ≤ w ∧ w ≤ 9
section
variable {P : Program} {w : World} {K : PySem.W.Frag} {mg : Str → Option Value} {base : Heap}
def spMoved (K : PySem.W.Frag) : Sp := fun vs H Q _ => ∃ (p : Addr) (sh : Int) (n : Nat) (r : Kw.Row), vs = [.ref p, .int sh] ∧ SqT K H p (row5 r) ∧ Tel n r ∧ ∀ t r', H t = none → Tel n r' → Q (.ref t) (upd H t (.tup (row5 r')))
theorem ok__law_moved (D : Dk K mg "_law_moved" s__law_moved) : Has P w K mg base CX0 1 "_law_moved" ["_law_tell", "_law_shift"] (spMoved K) := by
  have sc := sc__law_moved
  refine D.has0 sc (fun vs H Q E h => ?_) (fun _ _ _ _ _ _ us hl => match us, hl with | [_, _], _ => rfl) (fun f cdv A outer s0 H vs Q E hr h => ?_)
  · obtain ⟨p, sh, n, r, rfl, _⟩ := h
    rfl
  · obtain ⟨p, sh, n, ⟨rf, rs, lo, hi, rm⟩, rfl, hp, ht, q⟩ := h
    refine ⟨_, (pss_cons (ps_set (i := 2) sc.nd rfl (Or.inl rfl) (pe_ixT (K := K) rfl (pv 0) pe_int (fun _ _ => rfl)))
       (pss_cons (ps_set (i := 3) sc.nd rfl (Or.inl rfl) (pe_ixT (K := K) rfl (pv 0) pe_int (fun _ _ => rfl)))
       (pss_mid (ps_if (pt_cmpR o_notN (pv 2) pe_non (nomark _)) (pss_one (ps_set (i := 2) sc.nd rfl (Or.inl rfl) (pe_op op_add (pv 2) (pv 1)))) pss_nil)
       (pss_mid (ps_if (pt_cmpR o_notN (pv 3) pe_non (nomark _)) (pss_one (ps_set (i := 3) sc.nd rfl (Or.inl rfl) (pe_op op_add (pv 3) (pv 1)))) pss_nil)
       (pss_one (ps_ret (pe_tup (pa_cons (pe_ixT (K := K) rfl (pv 0) pe_int (fun _ _ => rfl)) (pa_cons (pe_ixT (K := K) rfl (pv 0) pe_int (fun _ _ => rfl)) (pa_cons (pv 2) (pa_cons (pv 3) (pa_cons (pe_ixT (K := K) rfl (pv 0) pe_int (fun _ _ => rfl)) pa_nil)))))))))))), ?_⟩
    walk_at "sx"
    refine q_ixT hp (atI_nat (j := 2) rfl) ?_
    walk_at "sx"
    refine q_ixT hp (atI_nat (j := 3) rfl) ?_
    walk_at "sx"
    refine ⟨fun σ H' => H' = H ∧ σ = [some (.ref p), some (.int sh), some (oV (lo.map (· + sh))), some (oV hi)], ?_, ?_⟩
    · walk_at "sx"
      cases lo with
      | none =>
        walk_at "sx"
        exact ⟨rfl, rfl⟩
      | some a =>
        walk_at "sx"
        exact ⟨rfl, rfl⟩
    · rintro σ H' ⟨rfl, rfl⟩
      walk_at "sx"
      refine ⟨fun σ H2 => H2 = H' ∧ σ = [some (.ref p), some (.int sh), some (oV (lo.map (· + sh))), some (oV (hi.map (· + sh)))], ?_, ?_⟩
      · walk_at "sx"
        cases hi with
        | none =>
          walk_at "sx"
          exact ⟨rfl, rfl⟩
        | some a =>
          walk_at "sx"
          exact ⟨rfl, rfl⟩
      · rintro σ H2 ⟨rfl, rfl⟩
        walk_at "sx"
        refine q_ixT hp (atI_nat (j := 0) rfl) ?_
        walk_at "sx"
        refine q_ixT hp (atI_nat (j := 1) rfl) ?_
        walk_at "sx"
        refine q_ixT hp (atI_nat (j := 4) rfl) ?_
        walk_at "sx"
        refine ⟨line_le (n := 5) (by decide), fun t nt => q t ⟨rf, rs, lo.map (· + sh), hi.map (· + sh), rm⟩ nt ⟨ht.f, ht.s, fun a b ea eb => ?_, ht.rm⟩⟩
        cases lo with
        | none => cases ea
        | some c =>
          cases hi with
          | none => cases eb
          | some d =>
            cases ea
            cases eb
            have := ht.le c d rfl rfl
            show c + sh ≤ d + sh
            omega
def spTells (K : PySem.W.Frag) : Sp := fun vs H Q _ => ∃ (s b : Addr) (n m : Nat) (B : Nat → Int) (reach : Int), vs = [.ref s, .int n, .int m, .ref b, .int reach] ∧ SrcAt H s ∧ H b = some (.lst (flV (fun i => .int (B i)) n)) ∧ b ≠ s ∧ 1 ≤ n ∧ n ≤ 16 ∧ m ≤ 100 ∧ 0 ≤ reach ∧ reach ≤ 100000000 ∧
  ∀ H' o xs R, Keep (· = s) H H' → H o = none → H' o = some (.lst xs) → Tups K H' row5 R m xs → (∀ i, i < m → Tel n (R i)) → Q (.ref o) H'
theorem ok__law_tells (D : Dk K mg "_law_tells" s__law_tells) (fr : Fr mg) (h__law_draw : Has P w K mg base CX0 1 "_law_draw" ["_law_source_here", "_law_size"] (spDraw K)) (h__law_between : Has P w K mg base CX0 2 "_law_between" ["_law_source_here", "_law_least", "_law_most"] (spBetween K)) :
    Has P w K mg base CX0 3 "_law_tells" ["_law_source_here", "_law_size", "_law_count", "_law_base", "_law_reach"] (spTells K) := by
  have sc := sc__law_tells
  refine D.has0 sc (fun vs H Q E h => ?_) (fun _ _ _ _ _ _ us hl => match us, hl with | [_, _, _, _, _], _ => rfl) (fun f cdv A outer s0 H vs Q E hr h => ?_)
  · obtain ⟨s, b, n, m, B, reach, rfl, _⟩ := h
    rfl
  · obtain ⟨s, b, n, m, B, reach, rfl, hs, hb, bs, n1, n16, hm, r0, r1, q⟩ := h
    refine ⟨_, (pss_cons (ps_set (i := 5) sc.nd rfl (Or.inl rfl) (pe_lst pa_nil))
       (pss_cons (ps_for PassesOwn.never rfl (pi_range1 (by rfl) fr.range (pa_cons (pv 2) pa_nil)) (pg_name (i := 6) sc.nd rfl (Or.inl rfl))
        (pss_cons (ps_set (i := 7) sc.nd rfl (Or.inl rfl) (pe_has h__law_draw (hr.mono (by decide)) pass0 (pa_cons (pv 0) (pa_cons (pv 1) pa_nil))))
       (pss_cons (ps_set (i := 8) sc.nd rfl (Or.inl rfl) (pe_has h__law_draw (hr.mono (by decide)) pass0 (pa_cons (pv 0) (pa_cons (pv 1) pa_nil))))
       (pss_cons (ps_set (i := 9) sc.nd rfl (Or.inl rfl) (pe_op op_sub (pe_ixL (K := K) rfl (pv 3) (pv 8) (fun _ _ => rfl)) (pe_ixL (K := K) rfl (pv 3) (pv 7) (fun _ _ => rfl))))
       (pss_mid (ps_if (pt_cmpR op_eq (pe_has h__law_draw (hr.mono (by decide)) pass0 (pa_cons (pv 0) (pa_cons pe_int pa_nil))) pe_int (nomark _)) (pss_one (ps_set (i := 9) sc.nd rfl (Or.inl rfl) (pe_op op_add (pv 9) (pe_has h__law_between (hr.mono (by decide)) pass0 (pa_cons (pv 0) (pa_cons (pe_op op_sub pe_int (pv 4)) (pa_cons (pv 4) pa_nil))))))) pss_nil)
       (pss_cons (ps_set (i := 10) sc.nd rfl (Or.inl rfl) (pe_op op_sub (pv 9) (pe_has h__law_draw (hr.mono (by decide)) pass0 (pa_cons (pv 0) (pa_cons pe_int pa_nil)))))
       (pss_cons (ps_set (i := 11) sc.nd rfl (Or.inl rfl) (pe_op op_add (pv 9) (pe_has h__law_draw (hr.mono (by decide)) pass0 (pa_cons (pv 0) (pa_cons pe_int pa_nil)))))
       (pss_cons (ps_set (i := 12) sc.nd rfl (Or.inl rfl) (pe_has h__law_draw (hr.mono (by decide)) pass0 (pa_cons (pv 0) (pa_cons pe_int pa_nil))))
       (pss_mid (ps_if (PW.pt (pw_or (pt_cmpR op_eq (pv 12) pe_int (nomark _)) (pw_or1 (pt_cmpR op_eq (pv 12) pe_int (nomark _))))) (pss_one (ps_set (i := 10) sc.nd rfl (Or.inl rfl) pe_non)) pss_nil)
       (pss_mid (ps_if (PW.pt (pw_or (pt_cmpR op_eq (pv 12) pe_int (nomark _)) (pw_or1 (pt_cmpR op_eq (pv 12) pe_int (nomark _))))) (pss_one (ps_set (i := 11) sc.nd rfl (Or.inl rfl) pe_non)) pss_nil)
       (pss_one (ps_expr (bmK (K := K) (pe_bm PySem.F.plainAttrs_list PySem.F.slot_list_append PySem.F.type_list_append mt_append (pv 5) (pa_cons (pe_tup (pa_cons (pv 7) (pa_cons (pv 8) (pa_cons (pv 10) (pa_cons (pv 11) (pa_cons (pe_op op_add pe_int (pe_has h__law_draw (hr.mono (by decide)) pass0 (pa_cons (pv 0) (pa_cons pe_int pa_nil)))) pa_nil)))))) pa_nil)) rfl)))))))))))))
       (pss_one (ps_ret (pv 5))))), ?_⟩
    walk_at "sx"
    refine ⟨line_le (n := 0) (by decide), fun o no => ?_⟩
    have os : o ≠ s := hs.ne no
    have s00 : Same H (upd H o (.lst [])) := same_upd no
    walk_at "sx"
    refine q_forR rfl ⟨m, rfl, line_le' (by omega), fun i σ H' => ∃ y6 y7 y8 y9 y10 y11 y12 R xs, σ = [some (.ref s), some (.int n), some (.int m), some (.ref b), some (.int reach), some (.ref o), y6, y7, y8, y9, y10, y11, y12] ∧ Keep (· = s) H H' ∧ SrcAt H' s ∧ H' o = some (.lst xs) ∧ Tups K H' row5 R i xs ∧ ∀ j, j < i → Tel n (R j), ?_, ?_, ?_⟩
    · exact ⟨_, _, _, _, _, _, _, fun _ => ⟨0, 0, none, none, none⟩, [], rfl, Same.keep s00, hs.same s00, upd_same, Tups.nil, fun j z => absurd z (Nat.not_lt_zero _)⟩
    · rintro i σ H' hi ⟨y6, y7, y8, y9, y10, y11, y12, R, xs, rfl, k1, s1, ho, ht, tel⟩
      walk_at "sx"
      refine ⟨s, _, rfl, s1, by omega, by omega, fun H1 x1 k2 s2 l1 => ?_⟩
      walk_at "sx"
      refine ⟨s, _, rfl, s2, by omega, by omega, fun H2 x2 k3 s3 l2 => ?_⟩
      have k13 := (k1.trans k2).trans k3
      walk_at "sx"
      refine q_ixL (.of (k13 _ _ bs hb)) (atI_nat (flV_get (show x2 < n by omega))) ?_
      walk_at "sx"
      refine q_ixL (.of (k13 _ _ bs hb)) (atI_nat (flV_get (show x1 < n by omega))) ?_
      walk_at "sx"
      refine ⟨fun σ H3 => ∃ g : Int, σ = [some (.ref s), some (.int n), some (.int m), some (.ref b), some (.int reach), some (.ref o), some (.int i), some (.int x1), some (.int x2), some (.int g), y10, y11, y12] ∧ Keep (· = s) H' H3 ∧ SrcAt H3 s, ?_, ?_⟩
      · walk_at "sx"
        refine ⟨s, _, rfl, s3, by omega, by omega, fun H3 x3 k4 s4 l3 => ?_⟩
        walk_at "sx"
        refine ifd (fun e => ?_) (fun e => ?_)
        · walk_at "sx"
          refine ⟨s, _, _, rfl, s4, by omega, by omega, fun H4 x4 k5 s5 g1 g2 => ?_⟩
          walk_at "sx"
          exact ⟨_, rfl, ((k2.trans k3).trans k4).trans k5, s5⟩
        · walk_at "sx"
          exact ⟨_, rfl, (k2.trans k3).trans k4, s4⟩
      · rintro σ H3 ⟨g, rfl, k4, s4⟩
        walk_at "sx"
        refine ⟨s, _, rfl, s4, by omega, by omega, fun H4 x4 k5 s5 l4 => ?_⟩
        walk_at "sx"
        refine ⟨s, _, rfl, s5, by omega, by omega, fun H5 x5 k6 s6 l5 => ?_⟩
        walk_at "sx"
        refine ⟨s, _, rfl, s6, by omega, by omega, fun H6 x6 k7 s7 l6 => ?_⟩
        have k47 := ((k4.trans k5).trans k6).trans k7
        walk_at "sx"
        refine ⟨fun σ H7 => H7 = H6 ∧ ∃ lo : Option Int, (∀ a, lo = some a → a ≤ g) ∧ σ = [some (.ref s), some (.int n), some (.int m), some (.ref b), some (.int reach), some (.ref o), some (.int i), some (.int x1), some (.int x2), some (.int g), some (oV lo), some (.int (g + x5)), some (.int x6)], ?_, ?_⟩
        · have no : tNext { nx := fun σ H7 => H7 = H6 ∧ ∃ lo : Option Int, (∀ a, lo = some a → a ≤ g) ∧ σ = [some (.ref s), some (.int n), some (.int m), some (.ref b), some (.int reach), some (.ref o), some (.int i), some (.int x1), some (.int x2), some (.int g), some (oV lo), some (.int (g + x5)), some (.int x6)], rt := Q } [some (.ref s), some (.int n), some (.int m), some (.ref b), some (.int reach), some (.ref o), some (.int i), some (.int x1), some (.int x2), some (.int g), some (.int (g - x4)), some (.int (g + x5)), some (.int x6)] H6 :=
            ⟨rfl, some (g - x4), (fun a e => by cases e; omega), rfl⟩
          walk_at "sx"
          refine ifd (fun e => ?_) (fun e => ?_)
          · refine ift rfl ?_
            walk_at "sx"
            exact ⟨rfl, none, (fun a e => nomatch e), rfl⟩
          · walk_at "sx"
            refine ifd (fun e => ?_) (fun e => ?_)
            · walk_at "sx"
              exact ⟨rfl, none, (fun a e => nomatch e), rfl⟩
            · exact no
        · rintro σ H7 ⟨rfl, lo, hlo, rfl⟩
          walk_at "sx"
          refine ⟨fun σ H8 => H8 = H7 ∧ ∃ hi : Option Int, (∀ a, hi = some a → g ≤ a) ∧ σ = [some (.ref s), some (.int n), some (.int m), some (.ref b), some (.int reach), some (.ref o), some (.int i), some (.int x1), some (.int x2), some (.int g), some (oV lo), some (oV hi), some (.int x6)], ?_, ?_⟩
          · walk_at "sx"
            refine ifd (fun e => ?_) (fun e => ?_)
            · refine ift rfl ?_
              walk_at "sx"
              exact ⟨rfl, none, (fun a e => nomatch e), rfl⟩
            · walk_at "sx"
              refine ifd (fun e => ?_) (fun e => ?_)
              · walk_at "sx"
                exact ⟨rfl, none, (fun a e => nomatch e), rfl⟩
              · exact ⟨rfl, some (g + x5), (fun a e => by cases e; omega), rfl⟩
          · rintro σ H8 ⟨rfl, hi2, hhi, rfl⟩
            walk_at "sx"
            refine q_appV rfl (k47 _ _ os ho) ?_
            walk_at "sx"
            refine ⟨s, _, rfl, s7, by omega, by omega, fun H9 x9 k9 s9 l9 => ?_⟩
            walk_at "sx"
            refine ⟨line_le (n := 5) (by decide), fun t nt => ?_⟩
            have k49 := k47.trans k9
            have st := same_upd (o := .tup [.int x1, .int x2, oV lo, oV hi2, .int (1 + x9)]) nt
            have ho9 := st _ _ (k49 _ _ os ho)
            walk_at "sx"
            refine q_rapp ho9 (by rw [ht.1]; exact line_of (by omega)) ?_
            walk_at "sx"
            have ht9 : Tups K _ row5 R i xs := (ht.keep k49 s1.lst).same st
            have e5 : row5 ⟨x1, x2, lo, hi2, some (1 + x9)⟩ = [.int x1, .int x2, oV lo, oV hi2, .int (1 + x9)] := rfl
            refine ⟨_, _, _, _, _, _, _, Kw.put R i ⟨x1, x2, lo, hi2, some (1 + x9)⟩, xs ++ [.ref t], rfl, ((k1.trans k49).trans (Same.keep st)).mut no, ?_, upd_same, (ht9.snoc (.of (by rw [e5]; exact upd_same))).keep (W := (· = o)) ((Keep.refl _ _).upd rfl) (one_lst ho9), fun j hj => ?_⟩
            · obtain ⟨c, k, z⟩ := s9.same st
              exact ⟨c, k, by rw [upd_ne os.symm]; exact z⟩
            · by_cases z : j = i
              · rw [z, Kw.put_same]
                refine ⟨by show x1 < n; omega, by show x2 < n; omega, fun a b ea eb => ?_, _, rfl, by omega, by omega⟩
                have := hlo a ea
                have := hhi b eb
                omega
              · rw [Kw.put_ne z]
                exact tel j (by omega)
    · rintro σ H' ⟨y6, y7, y8, y9, y10, y11, y12, R, xs, rfl, k1, s1, ho, ht, tel⟩
      walk_at "sx"
      exact q H' o xs R k1 no ho ht tel
theorem RSet.widen {n h p : Nat} {R : Nat → Kw.Row} {B : Nat → Int} {E : Nat → Nat} (s : RSet n h R B E) (hp : p < h) {a b : Int} (ea : (R p).lo = some a) (eb : (R p).hi = some b) {x y : Nat} (hx : x < 2) (hy : y < 2) :
    ∃ E', RSet n h (Kw.put R p ⟨(R p).f, (R p).s, some (a - x), some (b + y), none⟩) B E' ∧ ∃ v, v < n ∧ ∀ u, E' u ≤ E u + (if u = v then 2 else 0) := by
  have rp := s.rl p hp
  obtain ⟨a', b', e1, e2, h1, h2⟩ := rp.bnd
  rw [ea] at e1
  rw [eb] at e2
  cases e1
  cases e2
  have hf := rp.f
  have hs := rp.s
  have hne := rp.ne
  refine ⟨Kw.put E (max (R p).f (R p).s) (E (max (R p).f (R p).s) + 2), ⟨fun i hi => ?_, fun v hv hn => ?_⟩, max (R p).f (R p).s, by omega, fun u => ?_⟩
  · by_cases z : i = p
    · rw [z, Kw.put_same]
      exact ⟨hf, hs, hne, rfl, _, _, rfl, rfl, by show a - (x : Int) ≤ B (R p).s - B (R p).f; omega, by show B (R p).s - B (R p).f ≤ b + (y : Int); omega⟩
    · rw [Kw.put_ne z]
      exact s.rl i hi
  · obtain ⟨j, hj, u, hu, jn, nr⟩ := s.tree v hv hn
    by_cases z : j = p
    · subst z
      refine ⟨j, hj, u, hu, by rw [Kw.put_same]; exact jn, ?_⟩
      rw [Kw.put_same]
      have ev : v = max (R j).f (R j).s := by
        rcases jn with ⟨z1, z2⟩ | ⟨z1, z2⟩ <;> omega
      rw [← ev, Kw.put_same]
      obtain ⟨c, d, e1, e2, le⟩ := nr
      rw [ea] at e1
      rw [eb] at e2
      cases e1
      cases e2
      refine ⟨_, _, rfl, rfl, ?_⟩
      have p4 : (2 : Int) ^ (E v + 2) = 2 ^ E v * 4 := by rw [Int.pow_add]; rfl
      have p1 : (1 : Int) ≤ 2 ^ E v := by
        have : (0 : Int) < 2 ^ E v := Int.pow_pos (by decide)
        omega
      rw [p4]
      omega
    · refine ⟨j, hj, u, hu, by rw [Kw.put_ne z]; exact jn, ?_⟩
      rw [Kw.put_ne z]
      obtain ⟨c, d, e1, e2, le⟩ := nr
      refine ⟨c, d, e1, e2, ?_⟩
      by_cases z2 : v = max (R p).f (R p).s
      · rw [← z2, Kw.put_same]
        have p4 : (2 : Int) ^ (E v + 2) = 2 ^ E v * 4 := by rw [Int.pow_add]; rfl
        have p1 : (0 : Int) < 2 ^ E v := Int.pow_pos (by decide)
        rw [p4]
        omega
      · rw [Kw.put_ne z2]
        exact le
  · by_cases z : u = max (R p).f (R p).s
    · rw [if_pos z, z, Kw.put_same]
      exact Nat.le_refl _
    · rw [if_neg z, Kw.put_ne z]
      exact Nat.le_refl _
def spWider (K : PySem.W.Frag) : Sp := fun vs H Q _ => ∃ (s ra : Addr) (n h : Nat) (xs : List V) (R : Nat → Kw.Row) (B : Nat → Int) (E : Nat → Nat), vs = [.ref s, .ref ra] ∧ SrcAt H s ∧ ra ≠ s ∧ H ra = some (.lst xs) ∧ Tups K H row4 R h xs ∧ 1 ≤ h ∧ h ≤ 60 ∧ RSet n h R B E ∧
  ∀ H' o xs' R' E', Keep (· = s) H H' → SrcAt H' s → H o = none → H' o = some (.lst xs') → Tups K H' row4 R' h xs' → RSet n h R' B E' → (∃ v, v < n ∧ ∀ u, E' u ≤ E u + (if u = v then 2 else 0)) → Q (.ref o) H'
theorem ok__law_wider (D : Dk K mg "_law_wider" s__law_wider) (fr : Fr mg) (h__law_draw : Has P w K mg base CX0 1 "_law_draw" ["_law_source_here", "_law_size"] (spDraw K)) : Has P w K mg base CX0 2 "_law_wider" ["_law_source_here", "_law_rules_here"] (spWider K) := by
  have sc := sc__law_wider
  refine D.has0 sc (fun vs H Q E h => ?_) (fun _ _ _ _ _ _ us hl => match us, hl with | [_, _], _ => rfl) (fun f cdv A outer s0 H vs Q E0 hr h => ?_)
  · obtain ⟨s, ra, n, h, xs, R, B, E', rfl, _⟩ := h
    rfl
  · obtain ⟨s, ra, n, h, xs, R, B, E, rfl, hs, rs, hra, ht, h1, h60, rset, q⟩ := h
    refine ⟨_, (pss_cons (ps_set (i := 2) sc.nd rfl (Or.inl rfl) (pe_has h__law_draw (hr.mono (by decide)) pass0 (pa_cons (pv 0) (pa_cons (pe_callB (id := "len") (c_len (K := K) rfl) (by rfl) fr.len (by decide +kernel) (pa_cons (pv 1) pa_nil)) pa_nil))))
       (pss_cons (ps_set (i := 3) sc.nd rfl (Or.inl rfl) (pe_ixL (K := K) rfl (pv 1) (pv 2) (fun _ _ => rfl)))
       (pss_cons (ps_set (i := 4) sc.nd rfl (Or.inl rfl) (pe_tup (pa_cons (pe_ixT (K := K) rfl (pv 3) pe_int (fun _ _ => rfl)) (pa_cons (pe_ixT (K := K) rfl (pv 3) pe_int (fun _ _ => rfl)) (pa_cons (pe_op op_sub (pe_ixT (K := K) rfl (pv 3) pe_int (fun _ _ => rfl)) (pe_has h__law_draw (hr.mono (by decide)) pass0 (pa_cons (pv 0) (pa_cons pe_int pa_nil)))) (pa_cons (pe_op op_add (pe_ixT (K := K) rfl (pv 3) pe_int (fun _ _ => rfl)) (pe_has h__law_draw (hr.mono (by decide)) pass0 (pa_cons (pv 0) (pa_cons pe_int pa_nil)))) pa_nil))))))
       (pss_one (ps_ret (pe_op op_cat (pe_op op_cat (pe_slice sl_list (pv 1) po_none (po_some (pv 2))) (pe_lst (pa_cons (pv 4) pa_nil))) (pe_slice sl_list (pv 1) (po_some (pe_op op_add (pv 2) pe_int)) po_none))))))), ?_⟩
    walk_at "sx"
    refine q_len (.of hra) ?_
    rw [ht.1]
    refine ⟨s, _, rfl, hs, by omega, by omega, fun H1 p k1 s1 l1 => ?_⟩
    have hp : p < h := by omega
    have hr1 := k1 _ _ rs hra
    have ht1 := ht.keep k1 hs.lst
    obtain ⟨pa, e0, hpa⟩ := ht1.2 p hp
    obtain ⟨a, b, ea, eb, _⟩ := (rset.rl p hp).bnd
    walk_at "sx"
    refine q_ixL (.of hr1) (atI_nat e0) ?_
    walk_at "sx"
    refine q_ixT hpa (atI_nat (j := 0) rfl) ?_
    walk_at "sx"
    refine q_ixT hpa (atI_nat (j := 1) rfl) ?_
    walk_at "sx"
    refine q_ixT hpa (atI_nat (j := 2) rfl) ?_
    rw [ea]
    walk_at "sx"
    refine ⟨s, _, rfl, s1, by omega, by omega, fun H2 x k2 s2 l2 => ?_⟩
    have hpa2 := k2.sqt s1.lst hpa
    walk_at "sx"
    refine q_ixT hpa2 (atI_nat (j := 3) rfl) ?_
    rw [eb]
    walk_at "sx"
    refine ⟨s, _, rfl, s2, by omega, by omega, fun H3 y k3 s3 l3 => ?_⟩
    have hr3 := k3 _ _ rs (k2 _ _ rs hr1)
    have ht3 := (ht1.keep k2 s1.lst).keep k3 s2.lst
    walk_at "sx"
    refine ⟨line_le (n := 4) (by decide), fun t nt => ?_⟩
    have t1 := same_upd (o := .tup [.int (R p).f, .int (R p).s, .int (a - x), .int (b + y)]) nt
    have htt : (upd H3 t (.tup [.int (R p).f, .int (R p).s, .int (a - x), .int (b + y)])) t = some (.tup (row4 ⟨(R p).f, (R p).s, some (a - x), some (b + y), none⟩)) := upd_same
    generalize upd H3 t (.tup [.int (R p).f, .int (R p).s, .int (a - x), .int (b + y)]) = H4 at t1 htt
    walk_at "sx"
    refine q_sl ?_
    walk_at "sx"
    refine q_nopart ?_
    refine q_part ?_
    walk_at "sx"
    refine q_slT (.of (t1 _ _ hr3)) (by rw [ht.1]; omega) fun p1 np1 => ?_
    have t2 := same_upd (o := .lst (xs.take p)) np1
    walk_at "sx"
    refine ⟨line_le (n := 1) (by decide), fun p2 np2 => ?_⟩
    have t3 := same_upd (o := .lst [.ref t]) np2
    refine ⟨p1, p2, xs.take p, [.ref t], rfl, rfl, t3 _ _ upd_same, upd_same, ?_, fun p3 np3 => ?_⟩
    · rw [List.length_take, ht.1]
      exact line_le (by show min p h + 1 ≤ _; omega)
    have t4 := same_upd (o := .lst (xs.take p ++ [.ref t])) np3
    have t14 := ((t1.trans t2).trans t3).trans t4
    refine q_sl ?_
    walk_at "sx"
    refine q_part ?_
    walk_at "sx"
    refine q_nopart ?_
    rw [show (p : Int) + 1 = ((p + 1 : Nat) : Int) by omega]
    refine q_slF (.of (t14 _ _ hr3)) (by rw [ht.1]; omega) fun p4 np4 => ?_
    have t5 := same_upd (o := .lst (xs.drop (p + 1))) np4
    refine ⟨p3, p4, xs.take p ++ [.ref t], xs.drop (p + 1), rfl, rfl, t5 _ _ upd_same, upd_same, ?_, fun o no => ?_⟩
    · rw [List.length_append, List.length_take, List.length_drop, ht.1]
      exact line_le (by show min p h + 1 + _ ≤ _; omega)
    have t6 := same_upd (o := .lst (xs.take p ++ [.ref t] ++ xs.drop (p + 1))) no
    have t16 := (t14.trans t5).trans t6
    obtain ⟨E', rs', v, hv, hE⟩ := rset.widen hp ea eb (show x < 2 by omega) (show y < 2 by omega)
    have kk := ((k1.trans k2).trans k3).trans (Same.keep t16)
    have no3 : H3 o = none := (t14.trans t5).free no
    have htF := ((((ht3.same t16).take (Nat.le_of_lt hp)).snoc (.of ((((t2.trans t3).trans t4).trans t5).trans t6 _ _ htt))).cat ((ht3.same t16).drop (show p + 1 ≤ h by omega)))
    rw [show p + 1 + (h - (p + 1)) = h by omega] at htF
    refine q _ o _ _ E' kk (s3.same t16) (((k1.trans k2).trans k3).freeW no3 (s3.ne no3)) upd_same (htF.congr fun i hi => ?_) rs' ⟨v, hv, hE⟩
    by_cases z : i < p + 1
    · rw [cat_l z]
    · have e : cat (Kw.put R p ⟨(R p).f, (R p).s, some (a - x), some (b + y), none⟩) (p + 1) (fun i => R (p + 1 + i)) i = R (p + 1 + (i - (p + 1))) := if_neg z
      rw [e, Kw.put_ne (by omega), show p + 1 + (i - (p + 1)) = i by omega]
end
end Kt

namespace Kt
open PySem PySem.Spec PyProof.Rows L2
local macro_rules
  | `(tactic| walk_at "sx") => `(tactic| repeat (first
    | with_reducible refine q_seq ?_ | with_reducible refine q_par ?_ | with_reducible refine q_augS ?_ | with_reducible refine q_rev ?_ | with_reducible refine q_yes ?_ | with_reducible refine q_gname ?_ | with_reducible refine q_setG ?_ | with_reducible refine q_ip ?_ | with_reducible refine q_asg ?_ | with_reducible refine q_asgG ?_ | with_reducible refine q_ret ?_ | with_reducible refine q_drop ?_ | with_reducible refine q_if ?_ | with_reducible refine q_next ?_
    | with_reducible refine q_test ?_ | with_reducible refine q_tB ?_ | with_reducible refine q_chain ?_ | with_reducible refine q_andV ?_ | with_reducible refine q_bl ?_ | with_reducible refine q_exint ?_ | ((with_reducible show tAug _ _ _ _ _ _); refine q_aug rfl ?_) | with_reducible refine q_not ?_ | with_reducible refine q_and ?_ | with_reducible refine q_or ?_
    | with_reducible refine q_op ?_ | with_reducible refine q_un ?_ | with_reducible refine q_c ?_ | ((with_reducible show tVar _ _ _ _); refine q_var rfl ?_)
    | with_reducible refine q_i0 ?_ | with_reducible refine q_u ?_ | with_reducible refine q_eq ?_ | with_reducible refine q_ne ?_ | with_reducible refine q_isN ?_ | with_reducible refine q_notN ?_ | with_reducible refine q_min2 ?_ | with_reducible refine q_abs ?_ | with_reducible refine q_int ?_
    | with_reducible refine q_nil ?_ | with_reducible refine q_cons ?_ | with_reducible refine q_tup ?_ | with_reducible refine q_lst ?_ | with_reducible refine q_call ?_ | with_reducible refine q_makeN ?_ | with_reducible refine q_make ?_ | with_reducible refine q_cb ?_
    | ((with_reducible show ite _ _ _); first | refine ift rfl ?_ | refine iff' rfl ?_)))
-- slots: 0 _law_script 1 _law_shape 2 _law_most 3 _law_wide 4 _law_many 5 _law_size 6 _law_reach 7 _law_count 8 _law_kind 9 _law_far 10 _law_great 11 _law_move 12 _law_drawn 13 _law_rules_here 14 _law_tells_here 15 _law_twin 16 _law_masses 17 _law_tell
abbrev s__law_scene : Stmt := topS 60
theorem sc__law_scene : FnScope ["_law_script", "_law_shape", "_law_most", "_law_wide", "_law_many", "_law_size", "_law_reach", "_law_count", "_law_kind", "_law_far", "_law_great", "_law_move", "_law_drawn", "_law_rules_here", "_law_tells_here", "_law_twin", "_law_masses", "_law_tell"] ["_law_script", "_law_shape", "_law_most", "_law_wide", "_law_many"] (defScope s__law_scene) := ⟨rfl, rfl, rfl, by decide +kernel, rfl, by decide +kernel, by decide +kernel⟩
/-- the budget: what the nodes but 0 have -/
def sE : Nat → (Nat → Nat) → Nat
  | 0, _ => 0
  | k + 1, E => sE k E + E (k + 1)
theorem sE_const (e : Nat) : ∀ k, sE k (fun _ => e) = e * k
  | 0 => by rw [Nat.mul_zero]; rfl
  | k + 1 => by
    show sE k (fun _ => e) + e = e * (k + 1)
    rw [sE_const e k, Nat.mul_succ]
theorem sE_bump {E E' : Nat → Nat} {v : Nat} (h : ∀ u, E' u ≤ E u + (if u = v then 2 else 0)) : ∀ k, sE k E' ≤ sE k E + (if v ≤ k then 2 else 0)
  | 0 => Nat.zero_le _
  | k + 1 => by
    have ih := sE_bump h k
    have h1 := h (k + 1)
    show sE k E' + E' (k + 1) ≤ sE k E + E (k + 1) + _
    by_cases z : k + 1 = v
    · rw [if_pos z] at h1
      rw [if_neg (by omega)] at ih
      rw [if_pos (by omega)]
      omega
    · rw [if_neg z] at h1
      by_cases y : v ≤ k
      · rw [if_pos y] at ih
        rw [if_pos (by omega)]
        omega
      · rw [if_neg y] at ih
        omega
theorem sE_bump2 {E E' : Nat → Nat} {v k : Nat} (h : ∀ u, E' u ≤ E u + (if u = v then 2 else 0)) : sE k E' ≤ sE k E + 2 := by
  have := sE_bump h k
  split at this <;> omega
/-- the scene -/
structure Sc (n h m : Nat) (R T : Nat → Kw.Row) (B : Nat → Int) (E : Nat → Nat) : Prop where
  n1 : 1 ≤ n
  n16 : n ≤ 16
  hn : h ≤ n
  rset : RSet n h R B E
  bud : sE (n - 1) E ≤ 8
  b0 : B 0 = 0
  bb : ∀ v, v < n → -(16 * 100000000) ≤ B v ∧ B v ≤ 16 * 100000000
  m14 : m ≤ 14
  tel : ∀ i, i < m → Tel n (T i)
section
variable {P : Program} {w : World} {K : PySem.W.Frag} {mg : Str → Option Value} {base : Heap}
abbrev scS (sc sh : Addr) (xs : List (Option V)) : L2.St := some (.ref sc) :: some (.ref sh) :: some (.int 9) :: some (.int 20) :: some (.int 13) :: xs
def spScene (K : PySem.W.Frag) : Sp := fun vs H Q _ => ∃ (sc sh : Addr) (ns : List Int), vs = [.ref sc, .ref sh, .int 9, .int 20, .int 13] ∧ SrcAt H sh ∧ (∀ H', Keep (· = sh) H H' → SqL K H' sc (ns.map V.int)) ∧
  ∀ H' o ra ta ba xs ys n h m R T B E, Keep (· = sh) H H' → SrcAt H' sh → H o = none → H' o = some (.lst [.int (n : Nat), .ref ra, .ref ta, .ref ba]) → H ra = none → H' ra = some (.lst xs) → Tups K H' row4 R h xs → H ta = none → H' ta = some (.lst ys) → Tups K H' row5 T m ys → Sc n h m R T B E → Q (.ref o) H'
/-- how size and reach lie -/
def Cf (ki : Nat) (n : Nat) (re : Int) : Prop := ((1 ≤ n ∧ n ≤ 4 ∧ 0 ≤ re ∧ re ≤ 3) ∨ (n = 2 ∧ re = 20) ∨ (n = 5 ∧ re = 2) ∨ (n = 6 ∧ re = 1)) ∧ (ki = 6 → re = 0)
def Cg (ki : Nat) (n : Nat) (re : Int) (e : Nat) : Prop := re + 1 ≤ 2 ^ e ∧ 1 ≤ n ∧ n ≤ 16 ∧ 0 ≤ re ∧ re ≤ 20 ∧ ((ki ≠ 6 ∧ e * (n - 1) ≤ 8) ∨ (ki = 6 ∧ e = 0 ∧ 2 ≤ n))
theorem Cf.cg {ki n : Nat} {re : Int} (h : Cf ki n re) (hk : ki ≠ 6) : ∃ e, Cg ki n re e := by
  rcases h.1 with ⟨h1, h2, h3, h4⟩ | ⟨rfl, rfl⟩ | ⟨rfl, rfl⟩ | ⟨rfl, rfl⟩
  · exact ⟨2, by show re + 1 ≤ 4; omega, h1, by omega, h3, by omega, .inl ⟨hk, by omega⟩⟩
  · exact ⟨5, by decide, by decide, by decide, by decide, by decide, .inl ⟨hk, by decide⟩⟩
  · exact ⟨2, by decide, by decide, by decide, by decide, by decide, .inl ⟨hk, by decide⟩⟩
  · exact ⟨1, by decide, by decide, by decide, by decide, by decide, .inl ⟨hk, by decide⟩⟩
theorem ok__law_scene (D : Dk K mg "_law_scene" s__law_scene) (fr : Fr mg) (h__law_draw : Has P w K mg base CX0 1 "_law_draw" ["_law_source_here", "_law_size"] (spDraw K)) (h__law_between : Has P w K mg base CX0 2 "_law_between" ["_law_source_here", "_law_least", "_law_most"] (spBetween K))
    (h__law_source : Has P w K mg base CX0 1 "_law_source" ["_law_script", "_law_place"] (spSource K)) (h__law_rules : Has P w K mg base CX0 3 "_law_rules" ["_law_source_here", "_law_size", "_law_reach", "_law_far"] (spRules K)) (h__law_wider : Has P w K mg base CX0 2 "_law_wider" ["_law_source_here", "_law_rules_here"] (spWider K))
    (h__law_tells : Has P w K mg base CX0 3 "_law_tells" ["_law_source_here", "_law_size", "_law_count", "_law_base", "_law_reach"] (spTells K)) (h__law_moved : Has P w K mg base CX0 1 "_law_moved" ["_law_tell", "_law_shift"] (spMoved K)) :
    Has P w K mg base CX0 4 "_law_scene" ["_law_script", "_law_shape", "_law_most", "_law_wide", "_law_many"] (spScene K) := by
  have sc := sc__law_scene
  refine D.has0 sc (fun vs H Q E h => ?_) (fun _ _ _ _ _ _ us hl => match us, hl with | [_, _, _, _, _], _ => rfl) (fun f cdv A outer s0 H vs Q E0 hr h => ?_)
  · obtain ⟨a, b, ns, rfl, _⟩ := h
    rfl
  · obtain ⟨a, s, ns, rfl, hs, hsc, q⟩ := h
    refine ⟨_, (pss_cons (ps_set (i := 5) sc.nd rfl (Or.inl rfl) (pe_op op_add pe_int (pe_has h__law_draw (hr.mono (by decide)) pass0 (pa_cons (pv 1) (pa_cons pe_int pa_nil)))))
       (pss_cons (ps_set (i := 6) sc.nd rfl (Or.inl rfl) pe_int)
       (pss_cons (ps_set (i := 7) sc.nd rfl (Or.inl rfl) (pe_callB (id := "min") (c_min2 rfl) (by rfl) fr.min (by decide +kernel) (pa_cons pe_int (pa_cons (pe_has h__law_draw (hr.mono (by decide)) pass0 (pa_cons (pv 1) (pa_cons pe_int pa_nil))) pa_nil))))
       (pss_cons (ps_set (i := 8) sc.nd rfl (Or.inl rfl) (pe_has h__law_draw (hr.mono (by decide)) pass0 (pa_cons (pv 1) (pa_cons pe_int pa_nil))))
       (pss_mid (ps_if (pt_cmpR op_eq (pv 8) pe_int (nomark _)) (pss_one (ps_set (i := 5) sc.nd rfl (Or.inl rfl) pe_int)) pss_nil)
       (pss_mid (ps_if (PW.pt (pw_or (pt_cmpR op_eq (pv 8) pe_int (nomark _)) (pw_or1 (pt_cmpR op_eq (pv 8) pe_int (nomark _))))) (pss_one (ps_set (i := 6) sc.nd rfl (Or.inl rfl) pe_int)) pss_nil)
       (pss_mid (ps_if (PW.pt (pw_or (pt_cmpR op_eq (pv 8) pe_int (nomark _)) (pw_or1 (pt_cmpR op_eq (pv 8) pe_int (nomark _))))) (pss_cons (ps_set (i := 5) sc.nd rfl (Or.inl rfl) pe_int)
       (pss_one (ps_set (i := 6) sc.nd rfl (Or.inl rfl) (pv 3)))) pss_nil)
       (pss_mid (ps_if (pt_cmpR op_eq (pv 8) pe_int (nomark _)) (pss_cons (ps_set (i := 5) sc.nd rfl (Or.inl rfl) pe_int)
       (pss_one (ps_set (i := 6) sc.nd rfl (Or.inl rfl) pe_int))) pss_nil)
       (pss_mid (ps_if (pt_cmpR op_eq (pv 8) pe_int (nomark _)) (pss_cons (ps_set (i := 5) sc.nd rfl (Or.inl rfl) pe_int)
       (pss_one (ps_set (i := 6) sc.nd rfl (Or.inl rfl) pe_int))) pss_nil)
       (pss_mid (ps_if (PW.pt (pw_or (pt_cmpR op_eq (pv 8) pe_int (nomark _)) (pw_or1 (pt_cmpR op_eq (pv 8) pe_int (nomark _))))) (pss_one (ps_set (i := 7) sc.nd rfl (Or.inl rfl) (pv 4))) pss_nil)
       (pss_cons (ps_set (i := 9) sc.nd rfl (Or.inl rfl) (pv 6))
       (pss_cons (ps_set (i := 10) sc.nd rfl (Or.inl rfl) (pe_op op_pow pe_int pe_int))
       (pss_mid (ps_if (pt_cmpR op_eq (pv 8) pe_int (nomark _)) (pss_cons (ps_set (i := 5) sc.nd rfl (Or.inl rfl) pe_int)
       (pss_cons (ps_set (i := 7) sc.nd rfl (Or.inl rfl) (pe_callB (id := "min") (c_min2 rfl) (by rfl) fr.min (by decide +kernel) (pa_cons (pv 4) (pa_cons pe_int pa_nil))))
       (pss_cons (ps_set (i := 9) sc.nd rfl (Or.inl rfl) pe_int)
       (pss_one (ps_set (i := 10) sc.nd rfl (Or.inl rfl) (pe_op op_pow pe_int pe_int)))))) pss_nil)
       (pss_mid (ps_if (pt_cmpR op_eq (pe_has h__law_draw (hr.mono (by decide)) pass0 (pa_cons (pv 1) (pa_cons pe_int pa_nil))) pe_int (nomark _)) (pss_one (ps_set (i := 9) sc.nd rfl (Or.inl rfl) (pv 10))) pss_nil)
       (pss_cons (ps_set (i := 11) sc.nd rfl (Or.inl rfl) (pe_op op_add pe_int (pe_has h__law_draw (hr.mono (by decide)) pass0 (pa_cons (pv 1) (pa_cons (pe_op op_add pe_int (pv 6)) pa_nil)))))
       (pss_mid (ps_if (pt_cmpR op_eq (pe_has h__law_draw (hr.mono (by decide)) pass0 (pa_cons (pv 1) (pa_cons pe_int pa_nil))) pe_int (nomark _)) (pss_one (ps_set (i := 11) sc.nd rfl (Or.inl rfl) (pe_op op_pow pe_int pe_int))) pss_nil)
       (pss_cons (ps_set (i := 12) sc.nd rfl (Or.inl rfl) (pe_has h__law_rules (hr.mono (by decide)) pass0 (pa_cons (pe_has h__law_source (hr.mono (by decide)) pass0 (pa_cons (pv 0) (pa_cons pe_int pa_nil))) (pa_cons (pv 5) (pa_cons (pv 6) (pa_cons (pv 9) pa_nil))))))
       (pss_cons (ps_set (i := 13) sc.nd rfl (Or.inl rfl) (pe_ixL (K := K) rfl (pv 12) pe_int (fun _ _ => rfl)))
       (pss_mid (ps_if (pt_cmpR op_eq (pv 8) pe_int (nomark _)) (pss_one (ps_set (i := 13) sc.nd rfl (Or.inl rfl) (pe_has h__law_wider (hr.mono (by decide)) pass0 (pa_cons (pv 1) (pa_cons (pe_has h__law_wider (hr.mono (by decide)) pass0 (pa_cons (pv 1) (pa_cons (pv 13) pa_nil))) pa_nil))))) pss_nil)
       (pss_cons (ps_set (i := 14) sc.nd rfl (Or.inl rfl) (pe_has h__law_tells (hr.mono (by decide)) pass0 (pa_cons (pe_has h__law_source (hr.mono (by decide)) pass0 (pa_cons (pv 0) (pa_cons pe_int pa_nil))) (pa_cons (pv 5) (pa_cons (pv 7) (pa_cons (pe_ixL (K := K) rfl (pv 12) pe_int (fun _ _ => rfl)) (pa_cons (pv 11) pa_nil)))))))
       (pss_mid (ps_if (PW.pt (pw_and (pt_cmpR op_gt (pe_callB (id := "len") (c_len (K := K) rfl) (by rfl) fr.len (by decide +kernel) (pa_cons (pv 14) pa_nil)) pe_int (nomark _)) (pw_and1 (pt_cmpR op_gt (pe_has h__law_draw (hr.mono (by decide)) pass0 (pa_cons (pv 1) (pa_cons pe_int pa_nil))) pe_int (nomark _))))) (pss_cons (ps_set (i := 15) sc.nd rfl (Or.inl rfl) (pe_ixL (K := K) rfl (pv 14) (pe_has h__law_draw (hr.mono (by decide)) pass0 (pa_cons (pv 1) (pa_cons (pe_callB (id := "len") (c_len (K := K) rfl) (by rfl) fr.len (by decide +kernel) (pa_cons (pv 14) pa_nil)) pa_nil))) (fun _ _ => rfl)))
       (pss_one (ps_expr (bmK (K := K) (pe_bm PySem.F.plainAttrs_list PySem.F.slot_list_append PySem.F.type_list_append mt_append (pv 14) (pa_cons (pe_has h__law_moved (hr.mono (by decide)) pass0 (pa_cons (pv 15) (pa_cons (pe_has h__law_between (hr.mono (by decide)) pass0 (pa_cons (pv 1) (pa_cons (pe_op op_sub pe_int pe_int) (pa_cons pe_int pa_nil)))) pa_nil))) pa_nil)) rfl)))) pss_nil)
       (pss_cons (ps_set (i := 16) sc.nd rfl (Or.inr rfl) (pe_has h__law_source (hr.mono (by decide)) pass0 (pa_cons (pv 0) (pa_cons pe_int pa_nil))))
       (pss_cons (ps_setLc (i := 14) (own := [("_law_tell", 17)]) (g := gName 17) (tt := tYes) rfl sc.nd rfl rfl (sw_true rfl rfl rfl (by decide +kernel)) (pi_listK (K := K) rfl (pv 14)) (blkOk_by (by kernel_rfl)) (fun _ _ _ _ _ => (pg_name (i := 17) sc.nd rfl (Or.inl rfl))) (fun _ _ _ _ _ => pts_nil) (fun _ _ _ _ _ => (pe_tup (pa_cons (pe_ixT (K := K) rfl (pv 17) pe_int (fun _ _ => rfl)) (pa_cons (pe_ixT (K := K) rfl (pv 17) pe_int (fun _ _ => rfl)) (pa_cons (pe_ixT (K := K) rfl (pv 17) pe_int (fun _ _ => rfl)) (pa_cons (pe_ixT (K := K) rfl (pv 17) pe_int (fun _ _ => rfl)) (pa_cons (pe_op op_add pe_int (pe_has h__law_draw (hr.mono (by decide)) pass0 (pa_cons (pv 16) (pa_cons (pv 2) pa_nil)))) pa_nil))))))))
       (pss_one (ps_ret (pe_lst (pa_cons (pv 5) (pa_cons (pv 13) (pa_cons (pv 14) (pa_cons (pe_ixL (K := K) rfl (pv 12) pe_int (fun _ _ => rfl)) pa_nil)))))))))))))))))))))))))))))), ?_⟩
    walk_at "sx"
    refine ⟨s, _, rfl, hs, by omega, by omega, fun H1 x1 k1 s1 l1 => ?_⟩
    walk_at "sx"
    refine ⟨s, _, rfl, s1, by omega, by omega, fun H2 x2 k2 s2 l2 => ?_⟩
    walk_at "sx"
    refine ⟨s, _, rfl, s2, by omega, by omega, fun H3 ki k3 s3 l3 => ?_⟩
    walk_at "sx"
    have k13 := (k1.trans k2).trans k3
    obtain ⟨co, hco, ec⟩ : ∃ co : Nat, co ≤ 13 ∧ (if (x2 : Int) < 5 then (x2 : Int) else 5) = co := by
      by_cases z : (x2 : Int) < 5
      · exact ⟨x2, by omega, if_pos z⟩
      · exact ⟨5, by omega, if_neg z⟩
    rw [ec]
    refine ⟨fun σ H' => H3 = H' ∧ ∃ n : Nat, 1 ≤ n ∧ n ≤ 4 ∧ σ = scS a s [some (.int n), some (.int 3), some (.int co), some (.int ki), none, none, none, none, none, none, none, none, none], ?_, ?_⟩
    · walk_at "sx"
      refine ifd (fun e => ?_) (fun e => ?_)
      · walk_at "sx"
        exact ⟨rfl, 1, by omega, by omega, rfl⟩
      · walk_at "sx"
        exact ⟨rfl, 2 + x1, by omega, by omega, rfl⟩
    rintro σ _ ⟨rfl, n, n1, n4, rfl⟩
    walk_at "sx"
    refine ⟨fun σ H' => H3 = H' ∧ ∃ re : Int, 0 ≤ re ∧ re ≤ 3 ∧ (ki = 6 → re = 0) ∧ σ = scS a s [some (.int n), some (.int re), some (.int co), some (.int ki), none, none, none, none, none, none, none, none, none], ?_, ?_⟩
    · walk_at "sx"
      refine ifd (fun e => ?_) (fun e => ?_)
      · refine ift rfl ?_
        walk_at "sx"
        exact ⟨rfl, 0, by decide, by decide, (fun _ => rfl), rfl⟩
      · walk_at "sx"
        refine ifd (fun e => ?_) (fun e => ?_)
        · walk_at "sx"
          exact ⟨rfl, 0, by decide, by decide, (fun _ => rfl), rfl⟩
        · exact ⟨rfl, 3, by decide, by decide, (fun z => by omega), rfl⟩
    rintro σ _ ⟨rfl, re, r0, r3, r6, rfl⟩
    have c0 : Cf ki n re := ⟨.inl ⟨n1, n4, r0, r3⟩, r6⟩
    clear n1 n4 r0 r3 r6
    walk_at "sx"
    refine ⟨fun σ H' => H3 = H' ∧ ∃ n : Nat, ∃ re : Int, Cf ki n re ∧ σ = scS a s [some (.int n), some (.int re), some (.int co), some (.int ki), none, none, none, none, none, none, none, none, none], ?_, ?_⟩
    · walk_at "sx"
      refine ifd (fun e => ?_) (fun e => ?_)
      · refine ift rfl ?_
        walk_at "sx"
        exact ⟨rfl, 2, 20, ⟨.inr (.inl ⟨rfl, rfl⟩), (fun z => by omega)⟩, rfl⟩
      · walk_at "sx"
        refine ifd (fun e => ?_) (fun e => ?_)
        · walk_at "sx"
          exact ⟨rfl, 2, 20, ⟨.inr (.inl ⟨rfl, rfl⟩), (fun z => by omega)⟩, rfl⟩
        · exact ⟨rfl, n, re, c0, rfl⟩
    clear c0
    rintro σ _ ⟨rfl, n, re, c0, rfl⟩
    walk_at "sx"
    refine ⟨fun σ H' => H3 = H' ∧ ∃ n : Nat, ∃ re : Int, Cf ki n re ∧ σ = scS a s [some (.int n), some (.int re), some (.int co), some (.int ki), none, none, none, none, none, none, none, none, none], ?_, ?_⟩
    · walk_at "sx"
      refine ifd (fun e => ?_) (fun e => ?_)
      · walk_at "sx"
        exact ⟨rfl, 5, 2, ⟨.inr (.inr (.inl ⟨rfl, rfl⟩)), (fun z => by omega)⟩, rfl⟩
      · walk_at "sx"
        exact ⟨rfl, n, re, c0, rfl⟩
    clear c0
    rintro σ _ ⟨rfl, n, re, c0, rfl⟩
    walk_at "sx"
    refine ⟨fun σ H' => H3 = H' ∧ ∃ n : Nat, ∃ re : Int, Cf ki n re ∧ σ = scS a s [some (.int n), some (.int re), some (.int co), some (.int ki), none, none, none, none, none, none, none, none, none], ?_, ?_⟩
    · walk_at "sx"
      refine ifd (fun e => ?_) (fun e => ?_)
      · walk_at "sx"
        exact ⟨rfl, 6, 1, ⟨.inr (.inr (.inr ⟨rfl, rfl⟩)), (fun z => by omega)⟩, rfl⟩
      · walk_at "sx"
        exact ⟨rfl, n, re, c0, rfl⟩
    clear c0
    rintro σ _ ⟨rfl, n, re, c0, rfl⟩
    walk_at "sx"
    refine ⟨fun σ H' => H3 = H' ∧ ∃ co : Nat, co ≤ 13 ∧ σ = scS a s [some (.int n), some (.int re), some (.int co), some (.int ki), none, none, none, none, none, none, none, none, none], ?_, ?_⟩
    · walk_at "sx"
      refine ifd (fun e => ?_) (fun e => ?_)
      · refine ift rfl ?_
        walk_at "sx"
        exact ⟨rfl, 13, by decide, rfl⟩
      · walk_at "sx"
        refine ifd (fun e => ?_) (fun e => ?_)
        · walk_at "sx"
          exact ⟨rfl, 13, by decide, rfl⟩
        · exact ⟨rfl, co, hco, rfl⟩
    clear hco ec
    rintro σ _ ⟨rfl, co, hco, rfl⟩
    walk_at "sx"
    refine q_i (C := CPow) ⟨by decide, by decide, by decide⟩ ?_
    refine ⟨fun σ H' => H3 = H' ∧ ∃ n : Nat, ∃ re fa gr : Int, ∃ co e : Nat, Cg ki n re e ∧ co ≤ 13 ∧ 0 ≤ fa ∧ fa ≤ 100000000 ∧ 0 ≤ gr ∧ gr ≤ 100000000 ∧ σ = scS a s [some (.int n), some (.int re), some (.int co), some (.int ki), some (.int fa), some (.int gr), none, none, none, none, none, none, none], ?_, ?_⟩
    · walk_at "sx"
      refine ifd (fun e => ?_) (fun e => ?_)
      · have hk : ki = 6 := by omega
        have hre := c0.2 hk
        walk_at "sx"
        refine q_i (C := CPow) ⟨by decide, by decide, by decide⟩ ?_
        exact ⟨rfl, 16, re, 3, 10 ^ 7, 8, 0, ⟨by rw [hre]; decide, by decide, by decide, by omega, by omega, .inr ⟨hk, rfl, by decide⟩⟩, by decide, by decide, by decide, by decide, by decide, rfl⟩
      · walk_at "sx"
        obtain ⟨e, cg⟩ := c0.cg (show ki ≠ 6 by omega)
        have g1 := cg.2.2.2.1
        have g2 := cg.2.2.2.2.1
        exact ⟨rfl, n, re, re, 10 ^ 8, co, e, cg, hco, g1, by omega, by decide, by decide, rfl⟩
    clear hco c0
    rintro σ _ ⟨rfl, n, re, fa, gr, co, e, c0, hco, fa0, fa1, gr0, gr1, rfl⟩
    obtain ⟨he, n1, n16, r0, r20, hbud⟩ := c0
    walk_at "sx"
    refine ⟨fun σ H' => Keep (· = s) H H' ∧ SrcAt H' s ∧ ∃ fa : Int, 0 ≤ fa ∧ fa ≤ 100000000 ∧ σ = scS a s [some (.int n), some (.int re), some (.int co), some (.int ki), some (.int fa), some (.int gr), none, none, none, none, none, none, none], ?_, ?_⟩
    · walk_at "sx"
      refine ⟨s, _, rfl, s3, by omega, by omega, fun H4 x4 k4 s4 l4 => ?_⟩
      walk_at "sx"
      refine ifd (fun e => ?_) (fun e => ?_)
      · walk_at "sx"
        exact ⟨k13.trans k4, s4, gr, gr0, gr1, rfl⟩
      · walk_at "sx"
        exact ⟨k13.trans k4, s4, fa, fa0, fa1, rfl⟩
    clear fa0 fa1 gr0 gr1 k13 k1 k2 k3 s1 s2 s3
    rintro σ H4 ⟨k4, s4, fa, fa0, fa1, rfl⟩
    walk_at "sx"
    refine ⟨s, _, rfl, s4, by omega, by omega, fun H5 x5 k5 s5 l5 => ?_⟩
    walk_at "sx"
    refine ⟨fun σ H' => Keep (· = s) H H' ∧ SrcAt H' s ∧ ∃ mo : Int, 0 ≤ mo ∧ mo ≤ 100000000 ∧ σ = scS a s [some (.int n), some (.int re), some (.int co), some (.int ki), some (.int fa), some (.int gr), some (.int mo), none, none, none, none, none, none], ?_, ?_⟩
    · walk_at "sx"
      refine ⟨s, _, rfl, s5, by omega, by omega, fun H6 x6 k6 s6 l6 => ?_⟩
      walk_at "sx"
      refine ifd (fun e => ?_) (fun e => ?_)
      · walk_at "sx"
        refine q_i (C := CPow) ⟨by decide, by decide, by decide⟩ ?_
        exact ⟨(k4.trans k5).trans k6, s6, 10 ^ 8, by decide, by decide, rfl⟩
      · walk_at "sx"
        exact ⟨(k4.trans k5).trans k6, s6, 1 + x5, by omega, by omega, rfl⟩
    clear k4 s4 k5 s5 l5
    rintro σ H6 ⟨k6, s6, mo, mo0, mo1, rfl⟩
    walk_at "sx"
    -- the rules
    refine ⟨a, ns, 0, rfl, hsc _ k6, fun H7 sa t7 nsa s7 => ?_⟩
    walk_at "sx"
    refine ⟨sa, n, e, re, fa, rfl, s7, n1, n16, r0, r20, fa0, fa1, he, fun H8 dr ba ra0 xs R B h k8 ndr hdr nba hba nra hra htr hn rset b0 bb => ?_⟩
    have e68 : Same H6 H8 := Same.keepNew t7 k8 nsa
    have nba6 := t7.free nba
    have nra6 := t7.free nra
    walk_at "sx"
    refine q_ixL (.of hdr) (atI_nat (j := 1) rfl) ?_
    walk_at "sx"
    have k68 := k6.trans (Same.keep e68)
    have s8 := s6.same e68
    have ndr6 := t7.free ndr
    refine ⟨fun σ H' => ∃ ra xs R E, Keep (· = s) H8 H' ∧ SrcAt H' s ∧ H ra = none ∧ H' ra = some (.lst xs) ∧ Tups K H' row4 R h xs ∧ RSet n h R B E ∧ sE (n - 1) E ≤ 8 ∧ σ = scS a s [some (.int n), some (.int re), some (.int co), some (.int ki), some (.int fa), some (.int gr), some (.int mo), some (.ref dr), some (.ref ra), none, none, none, none], ?_, ?_⟩
    · have fH : ∀ {b}, H6 b = none → H b = none := fun {b} z => k6.freeW z (s6.ne z)
      walk_at "sx"
      refine ifd (fun e6 => ?_) (fun e6 => ?_)
      · have hk : ki = 6 := by omega
        have he0 : e = 0 ∧ 2 ≤ n := by
          rcases hbud with z | z
          · exact absurd hk z.1
          · exact z.2
        have h1 : 1 ≤ h := by
          obtain ⟨i, hi, _⟩ := rset.tree 1 (by decide) (by omega)
          omega
        walk_at "sx"
        refine ⟨s, ra0, n, h, xs, R, B, _, rfl, s8, s6.ne nra6, hra, htr, h1, by omega, rset, fun H9 o9 xs9 R9 E9 k9 s9 no9 ho9 ht9 rset9 hE9 => ?_⟩
        walk_at "sx"
        have no9' := no9
        refine ⟨s, o9, n, h, xs9, R9, B, E9, rfl, s9, s8.ne no9, ho9, ht9, h1, by omega, rset9, fun H10 o10 xs10 R10 E10 k10 s10 no10 ho10 ht10 rset10 hE10 => ?_⟩
        obtain ⟨v9, _, b9⟩ := hE9
        obtain ⟨v10, _, b10⟩ := hE10
        have c9 := sE_bump2 (k := n - 1) b9
        have c10 := sE_bump2 (k := n - 1) b10
        rw [sE_const, he0.1, Nat.zero_mul] at c9
        exact ⟨o10, xs10, R10, E10, k9.trans k10, s10, k68.freeW (k9.freeW no10 (s9.ne no10)) (s8.ne (k9.freeW no10 (s9.ne no10))), ho10, ht10, rset10, by omega, rfl⟩
      · walk_at "sx"
        refine ⟨ra0, xs, R, fun _ => e, Keep.refl _ _, s8, fH nra6, hra, htr, rset, ?_, rfl⟩
        rw [sE_const]
        rcases hbud with z | z
        · exact z.2
        · omega
    clear hra htr rset
    rintro σ H9 ⟨ra, xs, R, E, k9, s9, nra, hra, htr, rset, bud, rfl⟩
    walk_at "sx"
    have k79 := k68.trans k9
    have dns : dr ≠ s := s6.ne ndr6
    have bns : ba ≠ s := s6.ne nba6
    have hdr9 := k9 _ _ dns hdr
    have hba9 := k9 _ _ bns hba
    refine ⟨a, ns, 1, rfl, hsc _ k79, fun H10 sb t10 nsb s10 => ?_⟩
    walk_at "sx"
    refine q_ixL (.of (t10 _ _ hdr9)) (atI_nat (j := 0) rfl) ?_
    walk_at "sx"
    refine ⟨sb, ba, n, co, B, mo, rfl, s10, t10 _ _ hba9, ne_of_none hba9 nsb, n1, n16, by omega, mo0, mo1, fun H11 ta ys T k11 nta0 hta htt tel => ?_⟩
    have e911 : Same H9 H11 := Same.keepNew t10 k11 nsb
    have nta : H9 ta = none := t10.free nta0
    have ntaH : H ta = none := k79.freeW nta (s9.ne nta)
    walk_at "sx"
    refine ⟨fun σ H' => ∃ tw m ys T, Keep (· = s) H H' ∧ SrcAt H' s ∧ H' dr = some (.lst [.ref ba, .ref ra0]) ∧ H' ra = some (.lst xs) ∧ Tups K H' row4 R h xs ∧ H' ta = some (.lst ys) ∧ Tups K H' row5 T m ys ∧ m ≤ 14 ∧ (∀ i, i < m → Tel n (T i)) ∧ σ = scS a s [some (.int n), some (.int re), some (.int co), some (.int ki), some (.int fa), some (.int gr), some (.int mo), some (.ref dr), some (.ref ra), some (.ref ta), tw, none, none], ?_, ?_⟩
    · have stay : ∀ H', Keep (· = s) H11 H' → SrcAt H' s → ∃ tw m ys T, Keep (· = s) H H' ∧ SrcAt H' s ∧ H' dr = some (.lst [.ref ba, .ref ra0]) ∧ H' ra = some (.lst xs) ∧ Tups K H' row4 R h xs ∧ H' ta = some (.lst ys) ∧ Tups K H' row5 T m ys ∧ m ≤ 14 ∧ (∀ i, i < m → Tel n (T i)) ∧ scS a s [some (.int n), some (.int re), some (.int co), some (.int ki), some (.int fa), some (.int gr), some (.int mo), some (.ref dr), some (.ref ra), some (.ref ta), none, none, none] = scS a s [some (.int n), some (.int re), some (.int co), some (.int ki), some (.int fa), some (.int gr), some (.int mo), some (.ref dr), some (.ref ra), some (.ref ta), tw, none, none] := fun H' k s' =>
        ⟨none, co, ys, T, (k79.trans (Same.keep e911)).trans k, s', k _ _ dns (e911 _ _ hdr9), k _ _ (hs.ne nra) (e911 _ _ hra), (htr.same e911).keep k (s9.same e911).lst, k _ _ (s9.ne nta) hta, htt.keep k (s9.same e911).lst, by omega, tel, rfl⟩
      walk_at "sx"
      refine q_len (.of hta) ?_
      walk_at "sx"
      rw [htt.1]
      refine ifd (fun e1 => ?_) (fun e1 => ?_)
      · walk_at "sx"
        refine ⟨s, _, rfl, s9.same e911, by omega, by omega, fun H12 x12 k12 s12 l12 => ?_⟩
        walk_at "sx"
        refine ifd (fun e2 => ?_) (fun e2 => ?_)
        · walk_at "sx"
          have hta12 := k12 _ _ (s9.ne nta) hta
          have htt12 := htt.keep k12 (s9.same e911).lst
          refine q_len (.of hta12) ?_
          rw [htt.1]
          refine ⟨s, _, rfl, s12, by omega, by omega, fun H13 x13 k13 s13 l13 => ?_⟩
          have hta13 := k13 _ _ (s9.ne nta) hta12
          have htt13 := htt12.keep k13 s12.lst
          obtain ⟨p13, e13, hp13⟩ := htt13.2 x13 (by omega)
          refine q_ixL (.of hta13) (atI_nat e13) ?_
          walk_at "sx"
          refine q_appV rfl hta13 ?_
          walk_at "sx"
          refine ⟨s, _, _, rfl, s13, by decide, by decide, fun H14 x14 k14 s14 g1 g2 => ?_⟩
          walk_at "sx"
          refine ⟨p13, x14, n, T x13, rfl, k14.sqt s13.lst hp13, tel x13 (by omega), fun t r' nt tel' => ?_⟩
          walk_at "sx"
          have st := same_upd (o := .tup (row5 r')) nt
          have k1114 := (k12.trans k13).trans k14
          have kk := k1114.trans (Same.keep st)
          have s15 := s14.same st
          have hta15 := kk _ _ (s9.ne nta) hta
          have htt15 := (htt13.keep k14 s13.lst).same st
          have htu : (upd H14 t (.tup (row5 r'))) t = some (.tup (row5 r')) := upd_same
          generalize upd H14 t (.tup (row5 r')) = H15 at st kk s15 hta15 htt15 htu
          refine q_rapp hta15 (by rw [htt.1]; exact line_of (by omega)) ?_
          walk_at "sx"
          have nw : ∀ {b}, b ≠ ta → (upd H15 ta (.lst (ys ++ [.ref t]))) b = H15 b := fun hb => upd_ne hb
          have htr15 := (htr.same e911).keep kk (s9.same e911).lst
          refine ⟨_, co + 1, ys ++ [.ref t], Kw.put T co r', ((k79.trans (Same.keep e911)).trans kk).mut ntaH, ?_, ?_, ?_, htr15.keep (W := (· = ta)) ((Keep.refl _ _).upd rfl) (one_lst hta15), upd_same, (htt15.snoc (.of htu)).keep (W := (· = ta)) ((Keep.refl _ _).upd rfl) (one_lst hta15), by omega, fun i hi => ?_, rfl⟩
          · obtain ⟨c, k, z⟩ := s15
            exact ⟨c, k, by rw [nw (s9.ne nta).symm]; exact z⟩
          · rw [nw (ne_of_none hdr9 nta)]
            exact kk _ _ dns (e911 _ _ hdr9)
          · rw [nw (ne_of_none hra nta)]
            exact kk _ _ (hs.ne nra) (e911 _ _ hra)
          · by_cases z : i = co
            · rw [z, Kw.put_same]
              exact tel'
            · rw [Kw.put_ne z]
              exact tel i (by omega)
        · walk_at "sx"
          exact stay _ k12 s12
      · walk_at "sx"
        exact stay _ (Keep.refl _ _) (s9.same e911)
    clear htt tel hta
    rintro σ H12 ⟨tw, m, ys, T, k12, s12, hdr12, hra12, htr12, hta, htt, m14, tel, rfl⟩
    walk_at "sx"
    refine ⟨a, ns, 2, rfl, hsc _ k12, fun H13 sm t13 nsm s13 => ?_⟩
    walk_at "sx"
    have hta13 := t13 _ _ hta
    have tms : ta ≠ sm := ne_of_none hta nsm
    refine q_lcL rfl (.of hta13) fun o no => ⟨fun i H' => ∃ zs T2, Keep (· = sm) H13 H' ∧ SrcAt H' sm ∧ H' o = some (.lst zs) ∧ Tups K H' row5 T2 i zs ∧ ∀ j, j < i → Tel n (T2 j), ?_, ?_, ?_, ?_⟩
    · have st := same_upd (o := .lst []) no
      exact ⟨[], fun _ => ⟨0, 0, none, none, none⟩, Same.keep st, s13.same st, upd_same, Tups.nil, fun j z => absurd z (Nat.not_lt_zero _)⟩
    · rintro i H' hi ⟨zs, T2, k14, s14, ho, ht2, tel2⟩
      exact .of (k14 _ _ tms hta13)
    · rintro i x H' hx ⟨zs, T2, k14, s14, ho, ht2, tel2⟩
      obtain ⟨hi, p, rfl, hp⟩ := htt.get hx
      have hp14 := k14.sqt s13.lst (Same.sqt t13 hp)
      refine q_gname ?_
      refine ⟨wipe1, ?_⟩
      walk_at "sx"
      refine q_ixT hp14 (atI_nat (j := 0) rfl) ?_
      walk_at "sx"
      refine q_ixT hp14 (atI_nat (j := 1) rfl) ?_
      walk_at "sx"
      refine q_ixT hp14 (atI_nat (j := 2) rfl) ?_
      walk_at "sx"
      refine q_ixT hp14 (atI_nat (j := 3) rfl) ?_
      walk_at "sx"
      refine ⟨sm, _, rfl, s14, by decide, by decide, fun H15 x15 k15 s15 l15 => ?_⟩
      walk_at "sx"
      refine ⟨line_le (n := 5) (by decide), fun t nt => ?_⟩
      have osm : o ≠ sm := s13.ne no
      have ho15 := k15 _ _ osm ho
      have st := same_upd (o := .tup [.int (T i).f, .int (T i).s, oV (T i).lo, oV (T i).hi, .int (1 + x15)]) nt
      have ht15 := (ht2.keep k15 s14.lst).same st
      refine ⟨zs, st _ _ ho15, line_of (by rw [ht2.1]; omega), zs ++ [.ref t], Kw.put T2 i ⟨(T i).f, (T i).s, (T i).lo, (T i).hi, some (1 + x15)⟩, ((k14.trans k15).trans (Same.keep st)).mut no, ?_, upd_same, (ht15.snoc (.of upd_same)).keep (W := (· = o)) ((Keep.refl _ _).upd rfl) (one_lst (st _ _ ho15)), fun j hj => ?_⟩
      · obtain ⟨c, k, z⟩ := s15.same st
        exact ⟨c, k, by rw [upd_ne osm.symm]; exact z⟩
      · by_cases z : j = i
        · rw [z, Kw.put_same]
          have tl := tel i hi
          exact ⟨tl.f, tl.s, tl.le, _, rfl, by omega, by omega⟩
        · rw [Kw.put_ne z]
          exact tel2 j (by omega)
    · rintro H14 ⟨zs, T2, k14, s14, ho, ht2, tel2⟩
      rw [htt.1] at ht2 tel2
      have e1214 : Same H12 H14 := Same.keepNew t13 k14 nsm
      walk_at "sx"
      refine q_ixL (.of (e1214 _ _ hdr12)) (atI_nat (j := 0) rfl) ?_
      walk_at "sx"
      refine ⟨line_le (n := 4) (by decide), fun fin nfin => ?_⟩
      have st := same_upd (o := .lst [.int n, .ref ra, .ref o, .ref ba]) nfin
      have kF := k12.trans (Same.keep (e1214.trans st))
      have no12 : H12 o = none := t13.free no
      have nf12 : H12 fin = none := e1214.free nfin
      refine q _ fin ra o ba xs zs n h m R T2 B E kF (s12.same (e1214.trans st)) (k12.freeW nf12 (s12.ne nf12)) upd_same nra (st _ _ (e1214 _ _ hra12)) (htr12.same (e1214.trans st)) (k12.freeW no12 (s12.ne no12)) (st _ _ ho) (ht2.same st) ⟨n1, n16, hn, rset, bud, b0, bb, m14, tel2⟩
end
end Kt

namespace Kt
open PySem PySem.Spec PyProof.Rows L2
local macro_rules
  | `(tactic| walk_at "sx") => `(tactic| repeat (first
    | with_reducible refine q_seq ?_ | with_reducible refine q_par ?_ | with_reducible refine q_augS ?_ | with_reducible refine q_rev ?_ | with_reducible refine q_yes ?_ | with_reducible refine q_gname ?_ | with_reducible refine q_setG ?_ | with_reducible refine q_ip ?_ | with_reducible refine q_asg ?_ | with_reducible refine q_asgG ?_ | with_reducible refine q_ret ?_ | with_reducible refine q_drop ?_ | with_reducible refine q_if ?_ | with_reducible refine q_next ?_
    | with_reducible refine q_test ?_ | with_reducible refine q_tB ?_ | with_reducible refine q_chain ?_ | with_reducible refine q_andV ?_ | with_reducible refine q_bl ?_ | with_reducible refine q_exint ?_ | ((with_reducible show tAug _ _ _ _ _ _); refine q_aug rfl ?_) | with_reducible refine q_not ?_ | with_reducible refine q_and ?_ | with_reducible refine q_or ?_
    | with_reducible refine q_op ?_ | with_reducible refine q_un ?_ | with_reducible refine q_c ?_ | ((with_reducible show tVar _ _ _ _); refine q_var rfl ?_)
    | with_reducible refine q_i0 ?_ | with_reducible refine q_u ?_ | with_reducible refine q_eq ?_ | with_reducible refine q_ne ?_ | with_reducible refine q_isN ?_ | with_reducible refine q_notN ?_ | with_reducible refine q_min2 ?_ | with_reducible refine q_abs ?_ | with_reducible refine q_int ?_
    | with_reducible refine q_nil ?_ | with_reducible refine q_cons ?_ | with_reducible refine q_tup ?_ | with_reducible refine q_lst ?_ | with_reducible refine q_call ?_ | with_reducible refine q_makeN ?_ | with_reducible refine q_make ?_ | with_reducible refine q_cb ?_
    | ((with_reducible show ite _ _ _); first | refine ift rfl ?_ | refine iff' rfl ?_)))
-- slots: 0 _law_levels 1 _law_rules_here 2 _law_rule_here 3 _law_gap
abbrev s__law_keeps : Stmt := topS 50
theorem sc__law_keeps : FnScope ["_law_levels", "_law_rules_here", "_law_rule_here", "_law_gap"] ["_law_levels", "_law_rules_here"] (defScope s__law_keeps) := ⟨rfl, rfl, rfl, by decide +kernel, rfl, by decide +kernel, by decide +kernel⟩
-- slots: 0 _law_levels 1 _law_tell 2 _law_gap
abbrev s__law_excess : Stmt := topS 61
theorem sc__law_excess : FnScope ["_law_levels", "_law_tell", "_law_gap"] ["_law_levels", "_law_tell"] (defScope s__law_excess) := ⟨rfl, rfl, rfl, by decide +kernel, rfl, by decide +kernel, by decide +kernel⟩
-- slots: 0 _law_levels 1 _law_tells_here 2 _law_tell
abbrev s__law_growth : Stmt := topS 62
theorem sc__law_growth : FnScope ["_law_levels", "_law_tells_here", "_law_tell"] ["_law_levels", "_law_tells_here"] (defScope s__law_growth) := ⟨rfl, rfl, rfl, by decide +kernel, rfl, by decide +kernel, by decide +kernel⟩
-- slots: 0 _law_rows 1 _law_arcs_here 2 _law_row
abbrev s__law_arcs : Stmt := topS 51
theorem sc__law_arcs : FnScope ["_law_rows", "_law_arcs_here", "_law_row"] ["_law_rows"] (defScope s__law_arcs) := ⟨rfl, rfl, rfl, by decide +kernel, rfl, by decide +kernel, by decide +kernel⟩
section
variable {P : Program} {w : World} {K : PySem.W.Frag} {mg : Str → Option Value} {base : Heap}
/-- the rules among the first k nodes are kept -/
def Kps (R : Nat → Kw.Row) (h : Nat) (L : Nat → Int) (k : Nat) : Prop := ∀ i, i < h → (R i).f < k → (R i).s < k → ∀ a b, (R i).lo = some a → (R i).hi = some b → a ≤ L (R i).s - L (R i).f ∧ L (R i).s - L (R i).f ≤ b
def spKeeps (K : PySem.W.Frag) : Sp := fun vs H Q _ => ∃ (la ra : Addr) (L : Nat → Int) (k h : Nat) (xs : List V) (R : Nat → Kw.Row), vs = [.ref la, .ref ra] ∧ SqL K H la (flV (fun i => .int (L i)) k) ∧ SqL K H ra xs ∧ Tups K H row4 R h xs ∧ (∀ i, i < h → ∃ a b, (R i).lo = some a ∧ (R i).hi = some b) ∧
  ∀ b, (b = true ↔ Kps R h L k) → Q (.bl b) H
theorem ok__law_keeps (D : Dk K mg "_law_keeps" s__law_keeps) (fr : Fr mg) : Has P w K mg base CX0 1 "_law_keeps" ["_law_levels", "_law_rules_here"] (spKeeps K) := by
  have sc := sc__law_keeps
  refine D.has0 sc (fun vs H Q E h => ?_) (fun _ _ _ _ _ _ us hl => match us, hl with | [_, _], _ => rfl) (fun f cdv A outer s0 H vs Q E hr h => ?_)
  · obtain ⟨la, ra, L, k, h, xs, R, rfl, _⟩ := h
    rfl
  · obtain ⟨la, ra, L, k, h, xs, R, rfl, hl, hra, ht, hb, q⟩ := h
    refine ⟨_, (pss_cons (ps_for PassesOwn.never rfl (pi_listK (K := K) rfl (pv 1)) (pg_name (i := 2) sc.nd rfl (Or.inl rfl))
        (pss_one (ps_if (PW.pt (pw_and (pt_cmpR op_lt (pe_ixT (K := K) rfl (pv 2) pe_int (fun _ _ => rfl)) (pe_callB (id := "len") (c_len (K := K) rfl) (by rfl) fr.len (by decide +kernel) (pa_cons (pv 0) pa_nil)) (nomark _)) (pw_and1 (pt_cmpR op_lt (pe_ixT (K := K) rfl (pv 2) pe_int (fun _ _ => rfl)) (pe_callB (id := "len") (c_len (K := K) rfl) (by rfl) fr.len (by decide +kernel) (pa_cons (pv 0) pa_nil)) (nomark _))))) (pss_cons (ps_set (i := 3) sc.nd rfl (Or.inl rfl) (pe_op op_sub (pe_ixL (K := K) rfl (pv 0) (pe_ixT (K := K) rfl (pv 2) pe_int (fun _ _ => rfl)) (fun _ _ => rfl)) (pe_ixL (K := K) rfl (pv 0) (pe_ixT (K := K) rfl (pv 2) pe_int (fun _ _ => rfl)) (fun _ _ => rfl))))
       (pss_one (ps_if (PW.pt (pw_or (pt_cmpR op_lt (pv 3) (pe_ixT (K := K) rfl (pv 2) pe_int (fun _ _ => rfl)) (nomark _)) (pw_or1 (pt_cmpR op_gt (pv 3) (pe_ixT (K := K) rfl (pv 2) pe_int (fun _ _ => rfl)) (nomark _))))) (pss_one (ps_ret pe_bl)) pss_nil))) pss_nil)))
       (pss_one (ps_ret pe_bl))), ?_⟩
    walk_at "sx"
    refine q_forL rfl ⟨ra, xs, rfl, hra, fun i σ H' => H = H' ∧ (∃ y2 y3, σ = [some (.ref la), some (.ref ra), y2, y3]) ∧ Kps R i L k, ⟨rfl, ⟨_, _, rfl⟩, fun j z => absurd z (Nat.not_lt_zero _)⟩, ?_, ?_, ?_⟩
    · rintro i σ _ hi ⟨rfl, _⟩
      exact hra
    · rintro i x σ _ hx ⟨rfl, ⟨y2, y3, rfl⟩, kp⟩
      obtain ⟨hi, p, rfl, hp⟩ := ht.get hx
      obtain ⟨a, b, ea, eb⟩ := hb i hi
      have nx : ∀ σ2 : L2.St, (∃ y2 y3, σ2 = [some (.ref la), some (.ref ra), y2, y3]) → ((R i).f < k → (R i).s < k → a ≤ L (R i).s - L (R i).f ∧ L (R i).s - L (R i).f ≤ b) → H = H ∧ (∃ y2 y3, σ2 = [some (.ref la), some (.ref ra), y2, y3]) ∧ Kps R (i + 1) L k := fun σ2 e z => ⟨rfl, e, fun j hj l1 l2 c d e1 e2 => by
        by_cases y : j = i
        · subst y
          rw [ea] at e1
          rw [eb] at e2
          cases e1
          cases e2
          exact z l1 l2
        · exact kp j (by omega) l1 l2 c d e1 e2⟩
      have bad : (R i).f < k → (R i).s < k → ¬ (a ≤ L (R i).s - L (R i).f ∧ L (R i).s - L (R i).f ≤ b) → Q (.bl false) H := fun l1 l2 z => q false ⟨fun y => Bool.noConfusion y, fun y => absurd (y i hi l1 l2 a b ea eb) z⟩
      refine q_gname ?_
      walk_at "sx"
      refine q_ixT hp (atI_nat (j := 0) rfl) ?_
      walk_at "sx"
      refine q_len hl ?_
      walk_at "sx"
      rw [flV_len]
      refine ifd (fun l1 => ?_) (fun l1 => ?_)
      · have l1 : (R i).f < k := by omega
        walk_at "sx"
        refine q_ixT hp (atI_nat (j := 1) rfl) ?_
        walk_at "sx"
        refine q_len hl ?_
        walk_at "sx"
        rw [flV_len]
        refine ifd (fun l2 => ?_) (fun l2 => ?_)
        · have l2 : (R i).s < k := by omega
          walk_at "sx"
          refine q_ixT hp (atI_nat (j := 1) rfl) ?_
          refine q_ixL hl (atI_nat (flV_get l2)) ?_
          walk_at "sx"
          refine q_ixT hp (atI_nat (j := 0) rfl) ?_
          refine q_ixL hl (atI_nat (flV_get l1)) ?_
          walk_at "sx"
          refine q_ixT hp (atI_nat (j := 2) rfl) ?_
          rw [ea]
          walk_at "sx"
          refine ifd (fun g1 => ?_) (fun g1 => ?_)
          · refine ift rfl ?_
            walk_at "sx"
            exact bad l1 l2 fun z => by omega
          · walk_at "sx"
            refine q_ixT hp (atI_nat (j := 3) rfl) ?_
            rw [eb]
            walk_at "sx"
            refine ifd (fun g2 => ?_) (fun g2 => ?_)
            · walk_at "sx"
              exact bad l1 l2 fun z => by omega
            · walk_at "sx"
              exact nx _ ⟨_, _, rfl⟩ fun _ _ => ⟨by omega, by omega⟩
        · walk_at "sx"
          exact nx _ ⟨_, _, rfl⟩ fun _ z => absurd z (by omega)
      · walk_at "sx"
        exact nx _ ⟨_, _, rfl⟩ fun z => absurd z (by omega)
    · rintro σ _ ⟨rfl, ⟨y2, y3, rfl⟩, kp⟩
      rw [ht.1] at kp
      walk_at "sx"
      exact q true ⟨fun _ => kp, fun _ => rfl⟩
def excH (hi : Option Int) (d : Int) : Int := match hi with
  | some b => if b < d then d - b else 0
  | none => 0
theorem exc_n {hi : Option Int} {d : Int} : Kw.exc none hi d = excH hi d := by
  cases hi <;> rfl
theorem exc_y {a d : Int} {hi : Option Int} (h : d < a) : Kw.exc (some a) hi d = a - d := if_pos h
theorem exc_g {a d : Int} {hi : Option Int} (h : ¬ d < a) : Kw.exc (some a) hi d = excH hi d := by
  have e : Kw.exc (some a) hi d = (match hi with | some b => if b < d then d - b else 0 | none => 0) := if_neg h
  rw [e]
  cases hi <;> rfl
theorem excH_y {b d : Int} (h : b < d) : excH (some b) d = d - b := if_pos h
theorem excH_g {b d : Int} (h : ¬ b < d) : excH (some b) d = 0 := if_neg h
def spExcess (K : PySem.W.Frag) : Sp := fun vs H Q _ => ∃ (la p : Addr) (L : Nat → Int) (n : Nat) (r : Kw.Row), vs = [.ref la, .ref p] ∧ SqL K H la (flV (fun i => .int (L i)) n) ∧ SqT K H p (row5 r) ∧ r.f < n ∧ r.s < n ∧ Q (.int (Kw.exc r.lo r.hi (Kw.dif L r))) H
theorem ok__law_excess (D : Dk K mg "_law_excess" s__law_excess) : Has P w K mg base CX0 1 "_law_excess" ["_law_levels", "_law_tell"] (spExcess K) := by
  have sc := sc__law_excess
  refine D.has0 sc (fun vs H Q E h => ?_) (fun _ _ _ _ _ _ us hl => match us, hl with | [_, _], _ => rfl) (fun f cdv A outer s0 H vs Q E hr h => ?_)
  · obtain ⟨la, p, L, n, r, rfl, _⟩ := h
    rfl
  · obtain ⟨la, p, L, n, ⟨rf, rs, lo, hi, rm⟩, rfl, hl, hp, l1, l2, q⟩ := h
    refine ⟨_, (pss_cons (ps_set (i := 2) sc.nd rfl (Or.inl rfl) (pe_op op_sub (pe_ixL (K := K) rfl (pv 0) (pe_ixT (K := K) rfl (pv 1) pe_int (fun _ _ => rfl)) (fun _ _ => rfl)) (pe_ixL (K := K) rfl (pv 0) (pe_ixT (K := K) rfl (pv 1) pe_int (fun _ _ => rfl)) (fun _ _ => rfl))))
       (pss_cons (ps_if (PW.pt (pw_and (pt_cmpR o_notN (pe_ixT (K := K) rfl (pv 1) pe_int (fun _ _ => rfl)) pe_non (nomark _)) (pw_and1 (pt_cmpR op_lt (pv 2) (pe_ixT (K := K) rfl (pv 1) pe_int (fun _ _ => rfl)) (nomark _))))) (pss_one (ps_ret (pe_op op_sub (pe_ixT (K := K) rfl (pv 1) pe_int (fun _ _ => rfl)) (pv 2)))) pss_nil)
       (pss_cons (ps_if (PW.pt (pw_and (pt_cmpR o_notN (pe_ixT (K := K) rfl (pv 1) pe_int (fun _ _ => rfl)) pe_non (nomark _)) (pw_and1 (pt_cmpR op_gt (pv 2) (pe_ixT (K := K) rfl (pv 1) pe_int (fun _ _ => rfl)) (nomark _))))) (pss_one (ps_ret (pe_op op_sub (pv 2) (pe_ixT (K := K) rfl (pv 1) pe_int (fun _ _ => rfl))))) pss_nil)
       (pss_one (ps_ret pe_int))))), ?_⟩
    walk_at "sx"
    refine q_ixT hp (atI_nat (j := 1) rfl) ?_
    refine q_ixL hl (atI_nat (flV_get l2)) ?_
    walk_at "sx"
    refine q_ixT hp (atI_nat (j := 0) rfl) ?_
    refine q_ixL hl (atI_nat (flV_get l1)) ?_
    walk_at "sx"
    refine q_ixT hp (atI_nat (j := 2) rfl) ?_
    have q : Q (.int (Kw.exc lo hi (L rs - L rf))) H := q
    cases lo with
    | none =>
      rw [exc_n] at q
      walk_at "sx"
      refine q_ixT hp (atI_nat (j := 3) rfl) ?_
      cases hi with
      | none =>
        walk_at "sx"
        exact q
      | some b =>
        walk_at "sx"
        refine q_ixT hp (atI_nat (j := 3) rfl) ?_
        walk_at "sx"
        refine ifd (fun g => ?_) (fun g => ?_)
        · walk_at "sx"
          refine q_ixT hp (atI_nat (j := 3) rfl) ?_
          walk_at "sx"
          rw [excH_y g] at q
          exact q
        · walk_at "sx"
          rw [excH_g g] at q
          exact q
    | some a =>
      walk_at "sx"
      refine q_ixT hp (atI_nat (j := 2) rfl) ?_
      walk_at "sx"
      refine ifd (fun g => ?_) (fun g => ?_)
      · walk_at "sx"
        refine q_ixT hp (atI_nat (j := 2) rfl) ?_
        walk_at "sx"
        rw [exc_y g] at q
        exact q
      · rw [exc_g g] at q
        walk_at "sx"
        refine q_ixT hp (atI_nat (j := 3) rfl) ?_
        cases hi with
        | none =>
          walk_at "sx"
          exact q
        | some b =>
          walk_at "sx"
          refine q_ixT hp (atI_nat (j := 3) rfl) ?_
          walk_at "sx"
          refine ifd (fun g => ?_) (fun g => ?_)
          · walk_at "sx"
            refine q_ixT hp (atI_nat (j := 3) rfl) ?_
            walk_at "sx"
            rw [excH_y g] at q
            exact q
          · walk_at "sx"
            rw [excH_g g] at q
            exact q
def costs (L : Nat → Int) (T : Nat → Kw.Row) (m : Nat) : List Int := (List.range m).map fun i => Kw.cost (T i) (Kw.dif L (T i))
theorem costs_sum (L : Nat → Int) (T : Nat → Kw.Row) : ∀ m, (costs L T m).sum = Kw.sm m fun i => Kw.cost (T i) (Kw.dif L (T i))
  | 0 => rfl
  | m + 1 => by
    unfold costs
    rw [List.range_succ, List.map_append, List.sum_append]
    have := costs_sum L T m
    unfold costs at this
    rw [this]
    show _ + (Kw.cost (T m) (Kw.dif L (T m)) + 0) = _
    rw [Int.add_zero]
    rfl
def spGrowth (K : PySem.W.Frag) : Sp := fun vs H Q _ => ∃ (la ta : Addr) (L : Nat → Int) (n m : Nat) (ys : List V) (T : Nat → Kw.Row), vs = [.ref la, .ref ta] ∧ SqL K H la (flV (fun i => .int (L i)) n) ∧ SqL K H ta ys ∧ Tups K H row5 T m ys ∧ m ≤ 100 ∧ (∀ i, i < m → Tel n (T i)) ∧
  ∀ H', Same H H' → Q (.int (Kw.sm m fun i => Kw.cost (T i) (Kw.dif L (T i)))) H'
theorem ok__law_growth (D : Dk K mg "_law_growth" s__law_growth) (fr : Fr mg) (h__law_excess : Has P w K mg base CX0 1 "_law_excess" ["_law_levels", "_law_tell"] (spExcess K)) : Has P w K mg base CX0 2 "_law_growth" ["_law_levels", "_law_tells_here"] (spGrowth K) := by
  have sc := sc__law_growth
  refine D.has0 sc (fun vs H Q E h => ?_) (fun _ _ _ _ _ _ us hl => match us, hl with | [_, _], _ => rfl) (fun f cdv A outer s0 H vs Q E hr h => ?_)
  · obtain ⟨la, ta, L, n, m, ys, T, rfl, _⟩ := h
    rfl
  · obtain ⟨la, ta, L, n, m, ys, T, rfl, hl, hta, ht, hm, tel, q⟩ := h
    refine ⟨_, (pss_one (ps_ret (pe_callB (id := "sum") (c_sum (K := K) rfl rfl) (by rfl) fr.sum (by decide +kernel) (pa_cons (pe_lc (own := [("_law_tell", 2)]) (g := gName 2) (tt := tYes) rfl sc.nd (pi_listK (K := K) rfl (pv 1)) (blkOk_by (by kernel_rfl)) (fun _ _ _ _ _ => (pg_name (i := 2) sc.nd rfl (Or.inl rfl))) (fun _ _ _ _ _ => pts_nil) (fun _ _ _ _ _ => (pe_op op_mul (pe_ixT (K := K) rfl (pv 2) pe_int (fun _ _ => rfl)) (pe_has h__law_excess (hr.mono (by decide)) pass0 (pa_cons (pv 0) (pa_cons (pv 2) pa_nil)))))) pa_nil)))), ?_⟩
    walk_at "sx"
    refine q_lcL rfl hta fun o no => ⟨fun i H' => i ≤ m ∧ H' = upd H o (.lst ((costs L T i).map V.int)), ⟨Nat.zero_le _, rfl⟩, ?_, ?_, ?_⟩
    · rintro i H' hi ⟨_, rfl⟩
      exact Same.sql (same_upd no) hta
    · rintro i x H' hx ⟨_, rfl⟩
      obtain ⟨hi, p, rfl, hp⟩ := ht.get hx
      have st : Same H (upd H o (.lst ((costs L T i).map V.int))) := same_upd no
      have hp := Same.sqt st hp
      obtain ⟨wt, ew, w1, w9⟩ := (tel i hi).rm
      refine q_gname ?_
      refine ⟨wipe1, ?_⟩
      walk_at "sx"
      refine q_ixT hp (atI_nat (j := 4) rfl) ?_
      rw [ew]
      walk_at "sx"
      refine ⟨la, p, L, n, T i, rfl, Same.sql st hl, hp, (tel i hi).f, (tel i hi).s, ?_⟩
      refine q_i (cmul_l ⟨by omega, by omega⟩) ?_
      refine ⟨_, upd_same, line_of (by rw [List.length_map]; unfold costs; rw [List.length_map, List.length_range]; omega), hi, ?_⟩
      rw [upd_upd]
      congr 1
      show HO.lst (_ ++ [V.int (wt * Kw.exc (T i).lo (T i).hi (Kw.dif L (T i)))]) = _
      have e : Kw.cost (T i) (Kw.dif L (T i)) = wt * Kw.exc (T i).lo (T i).hi (Kw.dif L (T i)) := by
        unfold Kw.cost
        rw [ew]
      rw [← e]
      unfold costs
      rw [List.range_succ, List.map_append, List.map_append]
      rfl
    · rintro H' ⟨_, rfl⟩
      rw [ht.1]
      walk_at "sx"
      refine ⟨o, costs L T m, rfl, .of upd_same, ?_⟩
      rw [costs_sum]
      exact q _ (same_upd no)
/-- three-tuples -/
def arc3 (K : PySem.W.Frag) (H : Hp) (v : V) (a : Kw.Arc) : Prop := ∃ p, v = .ref p ∧ SqT K H p [.int a.s, .int a.e, .int a.l]
theorem arc3.keep {W : Addr → Prop} {H H' : Hp} {v : V} {a : Kw.Arc} (h : arc3 K H v a) (k : Keep W H H') (l : ∀ b, W b → ∃ xs, H b = some (.lst xs)) : arc3 K H' v a := by
  obtain ⟨p, h1, h2⟩ := h
  exact ⟨p, h1, k.sqt l h2⟩
def spLawArcs (K : PySem.W.Frag) : Sp := fun vs H Q _ => ∃ (ra : Addr) (h : Nat) (xs : List V) (R : Nat → Kw.Row), vs = [.ref ra] ∧ H ra = some (.lst xs) ∧ Tups K H row4 R h xs ∧ h ≤ 100 ∧ (∀ i, i < h → ∃ a b, (R i).lo = some a ∧ (R i).hi = some b) ∧
  ∀ H' o as, Same H H' → H o = none → H' o = some (.lst as) → Paired (arc3 K H') as (rArcs R h) → Q (.ref o) H'
theorem ok__law_arcs (D : Dk K mg "_law_arcs" s__law_arcs) (fr : Fr mg) : Has P w K mg base CX0 1 "_law_arcs" ["_law_rows"] (spLawArcs K) := by
  have sc := sc__law_arcs
  refine D.has0 sc (fun vs H Q E h => ?_) (fun _ _ _ _ _ _ us hl => match us, hl with | [_], _ => rfl) (fun f cdv A outer s0 H vs Q E hr h => ?_)
  · obtain ⟨ra, h, xs, R, rfl, _⟩ := h
    rfl
  · obtain ⟨ra, h, xs, R, rfl, hra, ht, hh, hb, q⟩ := h
    refine ⟨_, (pss_cons (ps_set (i := 1) sc.nd rfl (Or.inl rfl) (pe_lst pa_nil))
       (pss_cons (ps_for PassesOwn.never rfl (pi_listK (K := K) rfl (pv 0)) (pg_name (i := 2) sc.nd rfl (Or.inl rfl))
        (pss_mid (ps_if (pt_cmpR o_notN (pe_ixT (K := K) rfl (pv 2) pe_int (fun _ _ => rfl)) pe_non (nomark _)) (pss_one (ps_expr (bmK (K := K) (pe_bm PySem.F.plainAttrs_list PySem.F.slot_list_append PySem.F.type_list_append mt_append (pv 1) (pa_cons (pe_tup (pa_cons (pe_ixT (K := K) rfl (pv 2) pe_int (fun _ _ => rfl)) (pa_cons (pe_ixT (K := K) rfl (pv 2) pe_int (fun _ _ => rfl)) (pa_cons (pe_ixT (K := K) rfl (pv 2) pe_int (fun _ _ => rfl)) pa_nil)))) pa_nil)) rfl))) pss_nil)
       (pss_one (ps_if (pt_cmpR o_notN (pe_ixT (K := K) rfl (pv 2) pe_int (fun _ _ => rfl)) pe_non (nomark _)) (pss_one (ps_expr (bmK (K := K) (pe_bm PySem.F.plainAttrs_list PySem.F.slot_list_append PySem.F.type_list_append mt_append (pv 1) (pa_cons (pe_tup (pa_cons (pe_ixT (K := K) rfl (pv 2) pe_int (fun _ _ => rfl)) (pa_cons (pe_ixT (K := K) rfl (pv 2) pe_int (fun _ _ => rfl)) (pa_cons (pe_op op_sub pe_int (pe_ixT (K := K) rfl (pv 2) pe_int (fun _ _ => rfl))) pa_nil)))) pa_nil)) rfl))) pss_nil))))
       (pss_one (ps_ret (pv 1))))), ?_⟩
    walk_at "sx"
    refine ⟨line_le (n := 0) (by decide), fun o no => ?_⟩
    walk_at "sx"
    refine q_forL rfl ⟨ra, xs, rfl, .of (same_upd no _ _ hra), fun i σ H' => i ≤ h ∧ ∃ y2 as, σ = [some (.ref ra), some (.ref o), y2] ∧ Same H H' ∧ H' o = some (.lst as) ∧ Paired (arc3 K H') as (rArcs R i), ⟨Nat.zero_le _, _, [], rfl, same_upd no, upd_same, .nil⟩, ?_, ?_, ?_⟩
    · rintro i σ H' hi ⟨_, y2, as, rfl, s1, h1, v1⟩
      exact .of (s1 _ _ hra)
    · rintro i x σ H' hx ⟨_, y2, as, rfl, s1, h1, v1⟩
      obtain ⟨hi, p, rfl, hp⟩ := ht.get hx
      obtain ⟨a, b, ea, eb⟩ := hb i hi
      have hp1 := Same.sqt s1 hp
      have le : as.length ≤ 2 * i := by
        rw [Paired.length v1, rArcs_len]
        exact Nat.le_refl _
      refine q_gname ?_
      walk_at "sx"
      refine ⟨fun σ H2 => ∃ u, σ = [some (.ref ra), some (.ref o), some (.ref p)] ∧ Same H H2 ∧ H2 o = some (.lst (as ++ [u])) ∧ Paired (arc3 K H2) (as ++ [u]) (rArcs R i ++ [⟨(R i).f, (R i).s, b, 0, 0⟩]), ?_, ?_⟩
      · walk_at "sx"
        refine q_ixT hp1 (atI_nat (j := 3) rfl) ?_
        rw [eb]
        walk_at "sx"
        refine q_appV rfl h1 ?_
        walk_at "sx"
        refine q_ixT hp1 (atI_nat (j := 0) rfl) ?_
        walk_at "sx"
        refine q_ixT hp1 (atI_nat (j := 1) rfl) ?_
        walk_at "sx"
        refine q_ixT hp1 (atI_nat (j := 3) rfl) ?_
        rw [eb]
        walk_at "sx"
        refine ⟨line_le (n := 3) (by decide), fun t nt => ?_⟩
        have st := same_upd (o := .tup [.int (R i).f, .int (R i).s, .int b]) nt
        have htt : (upd H' t (.tup [.int (R i).f, .int (R i).s, .int b])) t = some (.tup [.int (R i).f, .int (R i).s, .int b]) := upd_same
        generalize upd H' t (.tup [.int (R i).f, .int (R i).s, .int b]) = H2 at st htt
        walk_at "sx"
        refine q_rapp (st _ _ h1) (line_of (by omega)) ?_
        walk_at "sx"
        have kp : Keep (· = o) H2 (upd H2 o (.lst (as ++ [.ref t]))) := (Keep.refl _ _).upd rfl
        refine ⟨.ref t, rfl, (s1.trans st).mut' no, upd_same, Paired.app (Paired.mapP v1 fun v z y => (y.keep (W := fun _ => False) (Same.keep st) fun b z => z.elim).keep kp (one_lst (st _ _ h1))) (.cons ⟨t, rfl, kp.sqt (one_lst (st _ _ h1)) (.of htt)⟩ .nil)⟩
      · rintro σ H2 ⟨u, rfl, s2, h2, v2⟩
        have hp2 := Same.sqt s2 hp
        walk_at "sx"
        refine q_ixT hp2 (atI_nat (j := 2) rfl) ?_
        rw [ea]
        walk_at "sx"
        refine q_appV rfl h2 ?_
        walk_at "sx"
        refine q_ixT hp2 (atI_nat (j := 1) rfl) ?_
        walk_at "sx"
        refine q_ixT hp2 (atI_nat (j := 0) rfl) ?_
        walk_at "sx"
        refine q_ixT hp2 (atI_nat (j := 2) rfl) ?_
        rw [ea]
        walk_at "sx"
        refine ⟨line_le (n := 3) (by decide), fun t nt => ?_⟩
        have st := same_upd (o := .tup [.int (R i).s, .int (R i).f, .int (0 - a)]) nt
        have htt : (upd H2 t (.tup [.int (R i).s, .int (R i).f, .int (0 - a)])) t = some (.tup [.int (R i).s, .int (R i).f, .int (0 - a)]) := upd_same
        generalize upd H2 t (.tup [.int (R i).s, .int (R i).f, .int (0 - a)]) = H3 at st htt
        walk_at "sx"
        refine q_rapp (st _ _ h2) (line_of (by rw [List.length_append]; show as.length + 1 ≤ _; omega)) ?_
        walk_at "sx"
        have kp : Keep (· = o) H3 (upd H3 o (.lst (as ++ [u] ++ [.ref t]))) := (Keep.refl _ _).upd rfl
        have e3 : rArcs R (i + 1) = (rArcs R i ++ [⟨(R i).f, (R i).s, b, 0, 0⟩]) ++ [⟨(R i).s, (R i).f, 0 - a, 0, 0⟩] := by
          show rArcs R i ++ ruArcs (R i) = _
          unfold ruArcs
          rw [ea, eb, List.append_assoc, Int.zero_sub]
          rfl
        refine ⟨hi, _, _, rfl, (s2.trans st).mut' no, upd_same, e3 ▸ Paired.app (Paired.mapP v2 fun v z y => (y.keep (W := fun _ => False) (Same.keep st) fun b z => z.elim).keep kp (one_lst (st _ _ h2))) (.cons ⟨t, rfl, kp.sqt (one_lst (st _ _ h2)) (.of htt)⟩ .nil)⟩
    · rintro σ H' ⟨_, y2, as, rfl, s1, h1, v1⟩
      rw [ht.1] at v1
      walk_at "sx"
      exact q H' o as s1 no h1 v1
end
end Kt

namespace Kt
open PySem PySem.Spec PyProof.Rows L2
local macro_rules
  | `(tactic| walk_at "sx") => `(tactic| repeat (first
    | with_reducible refine q_seq ?_ | with_reducible refine q_par ?_ | with_reducible refine q_augS ?_ | with_reducible refine q_rev ?_ | with_reducible refine q_yes ?_ | with_reducible refine q_gname ?_ | with_reducible refine q_setG ?_ | with_reducible refine q_ip ?_ | with_reducible refine q_asg ?_ | with_reducible refine q_asgG ?_ | with_reducible refine q_ret ?_ | with_reducible refine q_drop ?_ | with_reducible refine q_if ?_ | with_reducible refine q_next ?_
    | with_reducible refine q_test ?_ | with_reducible refine q_tB ?_ | with_reducible refine q_chain ?_ | with_reducible refine q_andV ?_ | with_reducible refine q_bl ?_ | with_reducible refine q_exint ?_ | ((with_reducible show tAug _ _ _ _ _ _); refine q_aug rfl ?_) | with_reducible refine q_not ?_ | with_reducible refine q_and ?_ | with_reducible refine q_or ?_
    | with_reducible refine q_op ?_ | with_reducible refine q_un ?_ | with_reducible refine q_c ?_ | ((with_reducible show tVar _ _ _ _); refine q_var rfl ?_)
    | with_reducible refine q_i0 ?_ | with_reducible refine q_u ?_ | with_reducible refine q_eq ?_ | with_reducible refine q_ne ?_ | with_reducible refine q_isN ?_ | with_reducible refine q_notN ?_ | with_reducible refine q_min2 ?_ | with_reducible refine q_abs ?_ | with_reducible refine q_int ?_
    | with_reducible refine q_nil ?_ | with_reducible refine q_cons ?_ | with_reducible refine q_tup ?_ | with_reducible refine q_lst ?_ | with_reducible refine q_call ?_ | with_reducible refine q_makeN ?_ | with_reducible refine q_make ?_ | with_reducible refine q_cb ?_
    | ((with_reducible show ite _ _ _); first | refine ift rfl ?_ | refine iff' rfl ?_)))
-- slots: 0 _law_size 1 _law_arcs_here 2 _law_table_here 3 _law_first 4 _law_second 5 _law_arc 6 _law_best 7 _law_middle 8 _law_total
abbrev s__law_table : Stmt := topS 52
theorem sc__law_table : FnScope ["_law_size", "_law_arcs_here", "_law_table_here", "_law_first", "_law_second", "_law_arc", "_law_best", "_law_middle", "_law_total"] ["_law_size", "_law_arcs_here"] (defScope s__law_table) := ⟨rfl, rfl, rfl, by decide +kernel, rfl, by decide +kernel, by decide +kernel⟩
section
variable {P : Program} {w : World} {K : PySem.W.Frag} {mg : Str → Option Value} {base : Heap}
def setC (T : Kw.Tb) (i j : Nat) (o : Option Int) : Kw.Tb := fun a b => if a = i ∧ b = j then o else T a b
theorem TabAt.cell {H : Hp} {tb : Addr} {rs : Nat → Addr} {T : Kw.Tb} {n i j : Nat} (h : TabAt H tb rs T n) (hi : i < n) (hj : j < n) (o : Option Int) : TabAt (upd H (rs i) (.lst ((flV (fun j => oV (T i j)) n).set j (oV o)))) tb rs (setC T i j o) n := by
  rw [flV_set]
  have e : flV (Kw.put (fun c => oV (T i c)) j (oV o)) n = flV (fun c => oV (setC T i j o i c)) n := by
    apply flV_congr
    intro c _
    unfold setC
    by_cases z : c = j
    · rw [z, Kw.put_same, if_pos ⟨rfl, rfl⟩]
    · rw [Kw.put_ne z, if_neg (fun y => z y.2)]
  rw [e]
  refine (h.put hi _).congr fun a b _ _ => ?_
  by_cases z : a = i
  · rw [if_pos z, z]
  · rw [if_neg z]
    unfold setC
    rw [if_neg (fun y => z y.1)]
/-- the table while one node is passed: rows below i, and in row i the columns below j -/
def mixT (T : Kw.Tb) (m i j : Nat) : Kw.Tb := fun a b => if a < i ∨ (a = i ∧ b < j) then Kw.pass T m a b else T a b
theorem mixT_row {T : Kw.Tb} {m i j a : Nat} (d : T m m = some 0) : mixT T m i j m a = T m a := by
  unfold mixT
  split
  · unfold Kw.pass
    rw [d]
    cases z : T m a with
    | none => rfl
    | some c =>
      show (if 0 + c < c then some (0 + c) else some c) = some c
      rw [if_neg (by omega)]
  · rfl
theorem mixT_col {T : Kw.Tb} {m i j a : Nat} (d : T m m = some 0) : mixT T m i j a m = T a m := by
  unfold mixT
  split
  · unfold Kw.pass
    rw [d]
    cases z : T a m with
    | none => rfl
    | some c =>
      show (if c + 0 < c then some (c + 0) else some c) = some c
      rw [if_neg (by omega)]
  · rfl
theorem mixT_at {T : Kw.Tb} {m i j : Nat} : mixT T m i j i j = T i j := if_neg (by omega)
theorem mixT_set {T : Kw.Tb} {m i j : Nat} {o : Option Int} (h : Kw.pass T m i j = o) (a b : Nat) : setC (mixT T m i j) i j o a b = mixT T m i (j + 1) a b := by
  unfold setC mixT
  by_cases z : a = i ∧ b = j
  · rw [if_pos z, if_pos (by omega), z.1, z.2, h]
  · rw [if_neg z]
    by_cases y : a < i ∨ (a = i ∧ b < j)
    · rw [if_pos y, if_pos (by omega)]
    · rw [if_neg y, if_neg (by omega)]
theorem mixT_skip {T : Kw.Tb} {m i j : Nat} (h : Kw.pass T m i j = T i j) (a b : Nat) : mixT T m i j a b = mixT T m i (j + 1) a b := by
  rw [← mixT_set h]
  unfold setC
  by_cases z : a = i ∧ b = j
  · rw [if_pos z, z.1, z.2, mixT_at]
  · rw [if_neg z]
theorem addArc_set (T : Kw.Tb) (a : Kw.Arc) (x y : Nat) : Kw.addArc T a x y = setC T a.s a.e (Kw.imp (T a.s a.e) a.l) x y := by
  unfold Kw.addArc setC
  by_cases z : x = a.s ∧ y = a.e
  · rw [if_pos z, if_pos z, z.1, z.2]
  · rw [if_neg z, if_neg z]
theorem setC_same {T : Kw.Tb} {i j : Nat} {o : Option Int} (h : T i j = o) (a b : Nat) : T a b = setC T i j o a b := by
  unfold setC
  by_cases z : a = i ∧ b = j
  · rw [if_pos z, z.1, z.2, h]
  · rw [if_neg z]
def spTable (K : PySem.W.Frag) : Sp := fun vs H Q _ => ∃ (n : Nat) (aa : Addr) (av : List V) (as : List Kw.Arc), vs = [.int n, .ref aa] ∧ n ≤ 1000 ∧ H aa = some (.lst av) ∧ Paired (arc3 K H) av as ∧ (∀ a ∈ as, a.s < n ∧ a.e < n) ∧ (∃ x, Kw.Pot as x) ∧
  ∀ H' tb rs, Same H H' → H tb = none → (∀ i, i < n → H (rs i) = none) → TabAt H' tb rs (Kw.clo n as) n → Q (.ref tb) H'
theorem ok__law_table (D : Dk K mg "_law_table" s__law_table) (fr : Fr mg) : Has P w K mg base CX0 1 "_law_table" ["_law_size", "_law_arcs_here"] (spTable K) := by
  have sc := sc__law_table
  refine D.has0 sc (fun vs H Q E h => ?_) (fun _ _ _ _ _ _ us hl => match us, hl with | [_, _], _ => rfl) (fun f cdv A outer s0 H vs Q E hr h => ?_)
  · obtain ⟨n, aa, av, as, rfl, _⟩ := h
    rfl
  · obtain ⟨n, aa, av, as, rfl, hn, hA, ha, lt, ⟨x, hx⟩, q⟩ := h
    refine ⟨_, (pss_cons (ps_set (i := 2) sc.nd rfl (Or.inl rfl) (pe_lst pa_nil))
       (pss_cons (ps_for PassesOwn.never rfl (pi_range1 (by rfl) fr.range (pa_cons (pv 0) pa_nil)) (pg_name (i := 3) sc.nd rfl (Or.inl rfl))
        (pss_cons (ps_expr (bmK (K := K) (pe_bm PySem.F.plainAttrs_list PySem.F.slot_list_append PySem.F.type_list_append mt_append (pv 2) (pa_cons (pe_lc (own := [("_law_second", 4)]) (g := gName 4) (tt := tYes) rfl sc.nd (pi_range1 (by rfl) fr.range (pa_cons (pv 0) pa_nil)) (blkOk_by (by kernel_rfl)) (fun _ _ _ _ _ => (pg_name (i := 4) sc.nd rfl (Or.inl rfl))) (fun _ _ _ _ _ => pts_nil) (fun _ _ _ _ _ => pe_non)) pa_nil)) rfl))
       (pss_one (ps_asg pe_int (pg_sub (pe_ixL (K := K) rfl (pv 2) (pv 3) (fun _ _ => rfl)) (pv 3) set_list)))))
       (pss_cons (ps_for PassesOwn.never rfl (pi_listK (K := K) rfl (pv 1)) (pg_name (i := 5) sc.nd rfl (Or.inl rfl))
        (pss_cons (ps_set (i := 6) sc.nd rfl (Or.inl rfl) (pe_ixL (K := K) rfl (pe_ixL (K := K) rfl (pv 2) (pe_ixT (K := K) rfl (pv 5) pe_int (fun _ _ => rfl)) (fun _ _ => rfl)) (pe_ixT (K := K) rfl (pv 5) pe_int (fun _ _ => rfl)) (fun _ _ => rfl)))
       (pss_one (ps_if (PW.pt (pw_or (pt_cmpR o_isN (pv 6) pe_non (nomark _)) (pw_or1 (pt_cmpR op_lt (pe_ixT (K := K) rfl (pv 5) pe_int (fun _ _ => rfl)) (pv 6) (nomark _))))) (pss_one (ps_asg (pe_ixT (K := K) rfl (pv 5) pe_int (fun _ _ => rfl)) (pg_sub (pe_ixL (K := K) rfl (pv 2) (pe_ixT (K := K) rfl (pv 5) pe_int (fun _ _ => rfl)) (fun _ _ => rfl)) (pe_ixT (K := K) rfl (pv 5) pe_int (fun _ _ => rfl)) set_list))) pss_nil))))
       (pss_cons (ps_for PassesOwn.never rfl (pi_range1 (by rfl) fr.range (pa_cons (pv 0) pa_nil)) (pg_name (i := 7) sc.nd rfl (Or.inl rfl))
        (pss_one (ps_for PassesOwn.never rfl (pi_range1 (by rfl) fr.range (pa_cons (pv 0) pa_nil)) (pg_name (i := 3) sc.nd rfl (Or.inl rfl))
        (pss_one (ps_for PassesOwn.never rfl (pi_range1 (by rfl) fr.range (pa_cons (pv 0) pa_nil)) (pg_name (i := 4) sc.nd rfl (Or.inl rfl))
        (pss_one (ps_if (PW.pt (pw_and (pt_cmpR o_notN (pe_ixL (K := K) rfl (pe_ixL (K := K) rfl (pv 2) (pv 3) (fun _ _ => rfl)) (pv 7) (fun _ _ => rfl)) pe_non (nomark _)) (pw_and1 (pt_cmpR o_notN (pe_ixL (K := K) rfl (pe_ixL (K := K) rfl (pv 2) (pv 7) (fun _ _ => rfl)) (pv 4) (fun _ _ => rfl)) pe_non (nomark _))))) (pss_cons (ps_set (i := 8) sc.nd rfl (Or.inl rfl) (pe_op op_add (pe_ixL (K := K) rfl (pe_ixL (K := K) rfl (pv 2) (pv 3) (fun _ _ => rfl)) (pv 7) (fun _ _ => rfl)) (pe_ixL (K := K) rfl (pe_ixL (K := K) rfl (pv 2) (pv 7) (fun _ _ => rfl)) (pv 4) (fun _ _ => rfl))))
       (pss_one (ps_if (PW.pt (pw_or (pt_cmpR o_isN (pe_ixL (K := K) rfl (pe_ixL (K := K) rfl (pv 2) (pv 3) (fun _ _ => rfl)) (pv 4) (fun _ _ => rfl)) pe_non (nomark _)) (pw_or1 (pt_cmpR op_lt (pv 8) (pe_ixL (K := K) rfl (pe_ixL (K := K) rfl (pv 2) (pv 3) (fun _ _ => rfl)) (pv 4) (fun _ _ => rfl)) (nomark _))))) (pss_one (ps_asg (pv 8) (pg_sub (pe_ixL (K := K) rfl (pv 2) (pv 3) (fun _ _ => rfl)) (pv 4) set_list))) pss_nil))) pss_nil)))))))
       (pss_one (ps_ret (pv 2))))))), ?_⟩
    walk_at "sx"
    refine ⟨line_le (n := 0) (by decide), fun tb ntb => ?_⟩
    walk_at "sx"
    refine q_forR rfl ⟨n, rfl, line_le' hn, fun i σ H' => ∃ y3, ∃ rs : Nat → Addr, σ = [some (.int n), some (.ref aa), some (.ref tb), y3, none, none, none, none, none] ∧ Same H H' ∧ H' tb = some (.lst (flV (fun k => .ref (rs k)) i)) ∧ (∀ k, k < i → H (rs k) = none ∧ H' (rs k) = some (.lst (flV (fun j => oV (if k = j then some 0 else none)) n)) ∧ rs k ≠ tb) ∧ ∀ k l, k < i → l < i → rs k = rs l → k = l, ?_, ?_, ?_⟩
    · exact ⟨_, fun _ => 0, rfl, same_upd ntb, upd_same, fun k hk => absurd hk (Nat.not_lt_zero _), fun k l hk => absurd hk (Nat.not_lt_zero _)⟩
    · rintro i σ H' hi ⟨y3, rs, rfl, s1, t1, r1, j1⟩
      walk_at "sx"
      refine q_appV rfl t1 ?_
      walk_at "sx"
      refine q_lcC rfl (line_le' hn) fun p np => ?_
      have s2 : Same H' (upd H' p (.lst (flV (fun _ => .non) n))) := same_upd np
      have ptb : p ≠ tb := (ne_of_none t1 np).symm
      have hpp : (upd H' p (.lst (flV (fun _ => .non) n))) p = some (.lst (flV (fun _ => .non) n)) := upd_same
      generalize upd H' p (.lst (flV (fun _ => .non) n)) = H2 at s2 hpp
      walk_at "sx"
      refine q_rapp (s2 _ _ t1) (by rw [flV_len]; exact line_of (by omega)) ?_
      have e1 : flV (fun k => V.ref (rs k)) i ++ [V.ref p] = flV (fun k => .ref (Kw.put rs i p k)) (i + 1) := by
        rw [← flV_snoc, Kw.put_same]
        congr 1
        exact flV_congr fun k hk => by rw [Kw.put_ne (by omega)]
      rw [e1]
      have ht3 : (upd H2 tb (.lst (flV (fun k => .ref (Kw.put rs i p k)) (i + 1)))) tb = some (.lst (flV (fun k => .ref (Kw.put rs i p k)) (i + 1))) := upd_same
      walk_at "sx"
      refine q_ixLn ht3 (flV_get (Nat.lt_succ_self i)) ?_
      rw [Kw.put_same]
      walk_at "sx"
      refine q_set (by rw [upd_ne ptb]; exact hpp) (by rw [flV_len]; exact hi) ?_
      rw [flV_set]
      have e2 : flV (Kw.put (fun _ => V.non) i (.int 0)) n = flV (fun j => oV (if i = j then some 0 else none)) n := by
        apply flV_congr
        intro j _
        by_cases z : j = i
        · rw [z, Kw.put_same, if_pos rfl]
        · rw [Kw.put_ne z, if_neg (fun y => z y.symm)]
      rw [e2]
      refine ⟨_, Kw.put rs i p, rfl, ((s1.trans s2).mut' ntb).mut' (s1.free np), ?_, fun k hk => ?_, fun k l hk hl e => ?_⟩
      · rw [upd_ne ptb.symm]
        exact ht3
      · by_cases e : k = i
        · subst e
          rw [Kw.put_same]
          exact ⟨s1.free np, upd_same, ptb⟩
        · rw [Kw.put_ne e]
          obtain ⟨g1, g2, g3⟩ := r1 k (by omega)
          exact ⟨g1, by rw [upd_ne (ne_of_none g2 np), upd_ne g3]; exact s2 _ _ g2, g3⟩
      · by_cases e1 : k = i
        · by_cases e2 : l = i
          · omega
          · rw [e1, Kw.put_same, Kw.put_ne e2] at e
            obtain ⟨_, g2, _⟩ := r1 l (by omega)
            exact absurd e.symm (ne_of_none g2 np)
        · by_cases e2 : l = i
          · rw [e2, Kw.put_same, Kw.put_ne e1] at e
            obtain ⟨_, g2, _⟩ := r1 k (by omega)
            exact absurd e (ne_of_none g2 np)
          · rw [Kw.put_ne e1, Kw.put_ne e2] at e
            exact j1 k l (by omega) (by omega) e
    · rintro σ H1 ⟨y3, rs, rfl, s1, t1, r1, j1⟩
      have nW : ∀ b, Wr rs n b → H b = none := fun b ⟨i, hi, e⟩ => by rw [e]; exact (r1 i hi).1
      have T0 : TabAt H1 tb rs Kw.init n := ⟨t1, fun i hi => (r1 i hi).2.1, j1, fun i hi => (r1 i hi).2.2⟩
      have stay : ∀ {H2 : Hp}, Keep (Wr rs n) H1 H2 → Same H H2 := fun k b o e => k b o (fun z => by rw [nW b z] at e; cases e) (s1 b o e)
      walk_at "sx"
      refine q_forL rfl ⟨aa, av, rfl, .of (s1 _ _ hA), fun i σ H2 => ∃ y5 y6, σ = [some (.int n), some (.ref aa), some (.ref tb), y3, none, y5, y6, none, none] ∧ Keep (Wr rs n) H1 H2 ∧ TabAt H2 tb rs ((as.take i).foldl Kw.addArc Kw.init) n, ?_, ?_, ?_, ?_⟩
      · exact ⟨_, _, rfl, Keep.refl _ _, T0⟩
      · rintro i σ H2 hi ⟨y5, y6, rfl, k3, t3⟩
        exact .of (stay k3 _ _ hA)
      · rintro i v σ H2 hv ⟨y5, y6, rfl, k3, t3⟩
        obtain ⟨a, ea, p, rfl, hp⟩ := paired_r ha hv
        obtain ⟨l1, l2⟩ := lt a (List.mem_of_getElem? ea)
        have step : (as.take (i + 1)).foldl Kw.addArc Kw.init = Kw.addArc ((as.take i).foldl Kw.addArc Kw.init) a := by
          rw [take_snoc ea, List.foldl_append]
          rfl
        obtain ⟨T, hT0⟩ : ∃ T, T = (as.take i).foldl Kw.addArc Kw.init := ⟨_, rfl⟩
        rw [← hT0] at t3 step
        have hp2 := Same.sqt (stay k3) hp
        have nx : ∀ (σ2 : L2.St) (H3 : Hp), (∃ y5 y6, σ2 = [some (.int n), some (.ref aa), some (.ref tb), y3, none, y5, y6, none, none]) → Keep (Wr rs n) H1 H3 → TabAt H3 tb rs (setC T a.s a.e (Kw.imp (T a.s a.e) a.l)) n →
            ∃ y5 y6, σ2 = [some (.int n), some (.ref aa), some (.ref tb), y3, none, y5, y6, none, none] ∧ Keep (Wr rs n) H1 H3 ∧ TabAt H3 tb rs ((as.take (i + 1)).foldl Kw.addArc Kw.init) n := by
          rintro σ2 H3 ⟨z5, z6, e⟩ g1 g2
          rw [step]
          exact ⟨z5, z6, e, g1, g2.congr fun x y _ _ => (addArc_set T a x y).symm⟩
        refine q_gname ?_
        walk_at "sx"
        refine q_ixT hp2 (atI_nat (j := 0) rfl) ?_
        refine q_ixLn t3.top (flV_get l1) ?_
        walk_at "sx"
        refine q_ixT hp2 (atI_nat (j := 1) rfl) ?_
        refine q_ixLn (t3.row a.s l1) (flV_get l2) ?_
        cases hT : T a.s a.e with
        | none =>
          rw [hT] at nx
          walk_at "sx"
          refine q_ixT hp2 (atI_nat (j := 2) rfl) ?_
          walk_at "sx"
          refine q_ixT hp2 (atI_nat (j := 0) rfl) ?_
          refine q_ixLn t3.top (flV_get l1) ?_
          walk_at "sx"
          refine q_ixT hp2 (atI_nat (j := 1) rfl) ?_
          refine q_set (t3.row a.s l1) (by rw [flV_len]; exact l2) ?_
          exact nx _ _ ⟨_, _, rfl⟩ (k3.upd ⟨_, l1, rfl⟩) (t3.cell l1 l2 (some a.l))
        | some c =>
          rw [hT] at nx
          walk_at "sx"
          refine q_ixT hp2 (atI_nat (j := 2) rfl) ?_
          walk_at "sx"
          refine ifd (fun g => ?_) (fun g => ?_)
          · have e : Kw.imp (some c) a.l = some a.l := if_pos g
            rw [e] at nx
            walk_at "sx"
            refine q_ixT hp2 (atI_nat (j := 2) rfl) ?_
            walk_at "sx"
            refine q_ixT hp2 (atI_nat (j := 0) rfl) ?_
            refine q_ixLn t3.top (flV_get l1) ?_
            walk_at "sx"
            refine q_ixT hp2 (atI_nat (j := 1) rfl) ?_
            refine q_set (t3.row a.s l1) (by rw [flV_len]; exact l2) ?_
            exact nx _ _ ⟨_, _, rfl⟩ (k3.upd ⟨_, l1, rfl⟩) (t3.cell l1 l2 (some a.l))
          · have e : Kw.imp (some c) a.l = some c := if_neg g
            rw [e] at nx
            walk_at "sx"
            exact nx _ _ ⟨_, _, rfl⟩ k3 (t3.congr fun x y _ _ => setC_same hT x y)
      · rintro σ H2 ⟨y5, y6, rfl, k3, t3⟩
        rw [Paired.length ha, List.take_length] at t3
        have ar := Kw.arcs_fold hx as Kw.init (fun _ h => h) (Kw.init_real as) Kw.init_diag
        have dg : ∀ k, Kw.Diag (Kw.fw k (Kw.arcTab as)) := fun k => (Kw.fw_ok hx ar.1 ar.2.1 k).2.1
        walk_at "sx"
        refine q_forR rfl ⟨n, rfl, line_le' hn, fun m σ H3 => ∃ y3 y4 y7 y8, σ = [some (.int n), some (.ref aa), some (.ref tb), y3, y4, y5, y6, y7, y8] ∧ Keep (Wr rs n) H1 H3 ∧ TabAt H3 tb rs (Kw.fw m (Kw.arcTab as)) n, ?_, ?_, ?_⟩
        · exact ⟨_, _, _, _, rfl, k3, t3⟩
        · rintro m σ H3 hm ⟨y3, y4, y7, y8, rfl, k4, t4⟩
          have dm : Kw.fw m (Kw.arcTab as) m m = some 0 := dg m m
          obtain ⟨T, eT⟩ : ∃ T, T = Kw.fw m (Kw.arcTab as) := ⟨_, rfl⟩
          have efw : Kw.fw (m + 1) (Kw.arcTab as) = Kw.pass T m := by rw [eT, Kw.fw_succ]
          rw [← eT] at t4 dm
          refine q_forR rfl ⟨n, rfl, line_le' hn, fun i σ H4 => ∃ y3 y4 y8, σ = [some (.int n), some (.ref aa), some (.ref tb), y3, y4, y5, y6, some (.int m), y8] ∧ Keep (Wr rs n) H1 H4 ∧ TabAt H4 tb rs (mixT T m i 0) n, ?_, ?_, ?_⟩
          · exact ⟨_, _, _, rfl, k4, t4.congr fun a b _ _ => (if_neg (by omega)).symm⟩
          · rintro i σ H4 hi ⟨y3, y4, y8, rfl, k5, t5⟩
            refine q_forR rfl ⟨n, rfl, line_le' hn, fun j σ H5 => ∃ y4 y8, σ = [some (.int n), some (.ref aa), some (.ref tb), some (.int i), y4, y5, y6, some (.int m), y8] ∧ Keep (Wr rs n) H1 H5 ∧ TabAt H5 tb rs (mixT T m i j) n, ?_, ?_, ?_⟩
            · exact ⟨_, _, rfl, k5, t5⟩
            · rintro j σ H5 hj ⟨y4, y8, rfl, k6, t6⟩
              have nx : ∀ (σ2 : L2.St) (H6 : Hp) (o : Option Int), (∃ y4 y8, σ2 = [some (.int n), some (.ref aa), some (.ref tb), some (.int i), y4, y5, y6, some (.int m), y8]) → Keep (Wr rs n) H1 H6 → Kw.pass T m i j = o → TabAt H6 tb rs (setC (mixT T m i j) i j o) n →
                  ∃ y4 y8, σ2 = [some (.int n), some (.ref aa), some (.ref tb), some (.int i), y4, y5, y6, some (.int m), y8] ∧ Keep (Wr rs n) H1 H6 ∧ TabAt H6 tb rs (mixT T m i (j + 1)) n := by
                rintro σ2 H6 o ⟨z4, z8, e⟩ g1 g2 g3
                exact ⟨z4, z8, e, g1, g3.congr fun a b _ _ => mixT_set g2 a b⟩
              have skip : ∀ (σ2 : L2.St), (∃ y4 y8, σ2 = [some (.int n), some (.ref aa), some (.ref tb), some (.int i), y4, y5, y6, some (.int m), y8]) → Kw.pass T m i j = T i j →
                  ∃ y4 y8, σ2 = [some (.int n), some (.ref aa), some (.ref tb), some (.int i), y4, y5, y6, some (.int m), y8] ∧ Keep (Wr rs n) H1 H5 ∧ TabAt H5 tb rs (mixT T m i (j + 1)) n := by
                rintro σ2 ⟨z4, z8, e⟩ g2
                exact ⟨z4, z8, e, k6, t6.congr fun a b _ _ => mixT_skip g2 a b⟩
              walk_at "sx"
              refine q_ixLn t6.top (flV_get hi) ?_
              walk_at "sx"
              refine q_ixLn (t6.row i hi) (flV_get hm) ?_
              rw [mixT_col dm]
              cases h1 : T i m with
              | none =>
                walk_at "sx"
                exact skip _ ⟨_, _, rfl⟩ (by unfold Kw.pass; rw [h1])
              | some b =>
                walk_at "sx"
                refine q_ixLn t6.top (flV_get hm) ?_
                walk_at "sx"
                refine q_ixLn (t6.row m hm) (flV_get hj) ?_
                rw [mixT_row dm]
                cases h2 : T m j with
                | none =>
                  walk_at "sx"
                  exact skip _ ⟨_, _, rfl⟩ (by unfold Kw.pass; rw [h1, h2])
                | some r =>
                  have pe : Kw.pass T m i j = Kw.imp (T i j) (b + r) := by unfold Kw.pass; rw [h1, h2]
                  walk_at "sx"
                  refine q_ixLn t6.top (flV_get hi) ?_
                  walk_at "sx"
                  refine q_ixLn (t6.row i hi) (flV_get hm) ?_
                  rw [mixT_col dm, h1]
                  walk_at "sx"
                  refine q_ixLn t6.top (flV_get hm) ?_
                  walk_at "sx"
                  refine q_ixLn (t6.row m hm) (flV_get hj) ?_
                  rw [mixT_row dm, h2]
                  walk_at "sx"
                  refine q_ixLn t6.top (flV_get hi) ?_
                  walk_at "sx"
                  refine q_ixLn (t6.row i hi) (flV_get hj) ?_
                  rw [mixT_at]
                  cases h3 : T i j with
                  | none =>
                    rw [h3] at pe
                    walk_at "sx"
                    refine q_ixLn t6.top (flV_get hi) ?_
                    walk_at "sx"
                    refine q_set (t6.row i hi) (by rw [flV_len]; exact hj) ?_
                    exact nx _ _ (some (b + r)) ⟨_, _, rfl⟩ (k6.upd ⟨_, hi, rfl⟩) pe (t6.cell hi hj (some (b + r)))
                  | some c =>
                    rw [h3] at pe
                    walk_at "sx"
                    refine q_ixLn t6.top (flV_get hi) ?_
                    walk_at "sx"
                    refine q_ixLn (t6.row i hi) (flV_get hj) ?_
                    rw [mixT_at, h3]
                    walk_at "sx"
                    refine ifd (fun g => ?_) (fun g => ?_)
                    · walk_at "sx"
                      refine q_ixLn t6.top (flV_get hi) ?_
                      walk_at "sx"
                      refine q_set (t6.row i hi) (by rw [flV_len]; exact hj) ?_
                      exact nx _ _ (some (b + r)) ⟨_, _, rfl⟩ (k6.upd ⟨_, hi, rfl⟩) (pe.trans (if_pos g)) (t6.cell hi hj (some (b + r)))
                    · walk_at "sx"
                      exact skip _ ⟨_, _, rfl⟩ ((pe.trans (if_neg g)).trans h3.symm)
            · rintro σ H5 ⟨y4, y8, rfl, k6, t6⟩
              refine ⟨_, _, _, rfl, k6, t6.congr fun a b _ hb => ?_⟩
              unfold mixT
              by_cases z : a < i ∨ (a = i ∧ b < n)
              · rw [if_pos z, if_pos (by omega)]
              · rw [if_neg z, if_neg (by omega)]
          · rintro σ H4 ⟨y3, y4, y8, rfl, k5, t5⟩
            refine ⟨_, _, _, _, rfl, k5, ?_⟩
            rw [efw]
            exact t5.congr fun a b ha' _ => if_pos (.inl ha')
        · rintro σ H3 ⟨y3, y4, y7, y8, rfl, k4, t4⟩
          walk_at "sx"
          exact q H3 tb rs (stay k4) ntb (fun i hi => (r1 i hi).1) t4
end
end Kt

/-! Plain facts of a scene: its arcs, its table, its potentials. -/
namespace Kt
open PySem L2
theorem mem_rArcs {R : Nat → Kw.Row} {a : Kw.Arc} : ∀ {h : Nat}, a ∈ rArcs R h → ∃ i, i < h ∧ a ∈ ruArcs (R i)
  | 0, z => nomatch z
  | h + 1, z => by
    unfold rArcs at z
    rcases List.mem_append.mp z with z | z
    · obtain ⟨i, hi, e⟩ := mem_rArcs z
      exact ⟨i, by omega, e⟩
    · exact ⟨h, Nat.lt_succ_self h, z⟩
theorem rArcs_mem {R : Nat → Kw.Row} {a : Kw.Arc} {i : Nat} : ∀ {h : Nat}, i < h → a ∈ ruArcs (R i) → a ∈ rArcs R h
  | 0, z, _ => absurd z (Nat.not_lt_zero _)
  | h + 1, z, e => by
    unfold rArcs
    by_cases y : i = h
    · subst y
      exact List.mem_append_right _ e
    · exact List.mem_append_left _ (rArcs_mem (by omega) e)
/-- potentials of the rules' arcs keep the rules -/
theorem pot_kps {n h : Nat} {R : Nat → Kw.Row} {B : Nat → Int} {E : Nat → Nat} (s : RSet n h R B E) {x : Nat → Int} : Kw.Pot (rArcs R h) x ↔ Kps R h x n := by
  constructor
  · intro p i hi _ _ a b ea eb
    have h1 := p _ (rArcs_mem hi (show (⟨(R i).f, (R i).s, (R i).hi.getD 0, 0, 0⟩ : Kw.Arc) ∈ ruArcs (R i) from List.mem_cons_self))
    have h2 := p _ (rArcs_mem hi (show (⟨(R i).s, (R i).f, -((R i).lo.getD 0), 0, 0⟩ : Kw.Arc) ∈ ruArcs (R i) from List.mem_cons_of_mem _ List.mem_cons_self))
    dsimp only at h1 h2
    rw [eb] at h1
    rw [ea] at h2
    have e1 : (some b).getD 0 = b := rfl
    have e2 : (some a).getD 0 = a := rfl
    omega
  · intro k a ha
    obtain ⟨i, hi, e⟩ := mem_rArcs ha
    obtain ⟨lo, hi', ea, eb, _⟩ := (s.rl i hi).bnd
    obtain ⟨k1, k2⟩ := k i hi (s.rl i hi).f (s.rl i hi).s lo hi' ea eb
    unfold ruArcs at e
    rw [ea, eb] at e
    rcases List.mem_cons.mp e with rfl | e
    · exact k2
    · rw [List.mem_singleton.mp e]
      show x (R i).f - x (R i).s ≤ -lo
      omega
theorem base_kps {n h : Nat} {R : Nat → Kw.Row} {B : Nat → Int} {E : Nat → Nat} (s : RSet n h R B E) : Kps R h B n := fun i hi _ _ a b ea eb => by
  obtain ⟨lo, hi', e1, e2, h1, h2⟩ := (s.rl i hi).bnd
  rw [ea] at e1
  rw [eb] at e2
  cases e1
  cases e2
  exact ⟨h1, h2⟩
theorem sE_le {E : Nat → Nat} : ∀ {k v : Nat}, 0 < v → v ≤ k → E v ≤ sE k E
  | 0, v, h1, h2 => by omega
  | k + 1, v, h1, h2 => by
    show E v ≤ sE k E + E (k + 1)
    by_cases z : v = k + 1
    · subst z
      omega
    · have := sE_le (E := E) (k := k) h1 (by omega)
      omega
/-- between node 0 and each node there are short walks -/
theorem walks0 {n h : Nat} {R : Nat → Kw.Row} {B : Nat → Int} {E : Nat → Nat} (s : RSet n h R B E) (hE : ∀ v, 0 < v → v < n → E v ≤ 8) : ∀ m v, v < m → v < n → ∃ c d, Kw.Walk (rArcs R h) 0 v c ∧ Kw.Walk (rArcs R h) v 0 d ∧ c ≤ B v - B 0 + 256 * v ∧ d ≤ B 0 - B v + 256 * v
  | 0, v, z, _ => absurd z (Nat.not_lt_zero _)
  | m + 1, v, z, hn => by
    by_cases v0 : v = 0
    · subst v0
      exact ⟨0, 0, .nil 0, .nil 0, by omega, by omega⟩
    · obtain ⟨i, hi, u, hu, jn, lo, b, ea, eb, nar⟩ := s.tree v (by omega) hn
      obtain ⟨c, d, w1, w2, l1, l2⟩ := walks0 s hE m u (by omega) (by omega)
      obtain ⟨lo', b', e1, e2, g1, g2⟩ := (s.rl i hi).bnd
      rw [ea] at e1
      rw [eb] at e2
      cases e1
      cases e2
      have pw : (2 : Int) ^ (E v) ≤ 256 := by
        have := hE v (by omega) hn
        have : (2 : Nat) ^ (E v) ≤ 2 ^ 8 := Nat.pow_le_pow_right (by decide) this
        exact_mod_cast this
      have a1 : (⟨(R i).f, (R i).s, b, 0, 0⟩ : Kw.Arc) ∈ rArcs R h := rArcs_mem hi (by unfold ruArcs; rw [eb]; exact List.mem_cons_self)
      have a2 : (⟨(R i).s, (R i).f, -lo, 0, 0⟩ : Kw.Arc) ∈ rArcs R h := rArcs_mem hi (by unfold ruArcs; rw [ea]; exact List.mem_cons_of_mem _ List.mem_cons_self)
      have q1 := Kw.Walk.one a1
      have q2 := Kw.Walk.one a2
      dsimp only at q1 q2
      rcases jn with ⟨z1, z2⟩ | ⟨z1, z2⟩
      · rw [z1, z2] at q1 q2 g1 g2
        exact ⟨_, _, w1.trans q2, q1.trans w2, by omega, by omega⟩
      · rw [z1, z2] at q1 q2 g1 g2
        exact ⟨_, _, w1.trans q1, q2.trans w2, by omega, by omega⟩
end Kt

namespace Kt
open PySem PySem.Spec PyProof.Rows L2
local macro_rules
  | `(tactic| walk_at "sx") => `(tactic| repeat (first
    | with_reducible refine q_seq ?_ | with_reducible refine q_par ?_ | with_reducible refine q_augS ?_ | with_reducible refine q_rev ?_ | with_reducible refine q_yes ?_ | with_reducible refine q_gname ?_ | with_reducible refine q_setG ?_ | with_reducible refine q_ip ?_ | with_reducible refine q_asg ?_ | with_reducible refine q_asgG ?_ | with_reducible refine q_ret ?_ | with_reducible refine q_drop ?_ | with_reducible refine q_if ?_ | with_reducible refine q_next ?_
    | with_reducible refine q_test ?_ | with_reducible refine q_tB ?_ | with_reducible refine q_chain ?_ | with_reducible refine q_andV ?_ | with_reducible refine q_bl ?_ | with_reducible refine q_exint ?_ | ((with_reducible show tAug _ _ _ _ _ _); refine q_aug rfl ?_) | with_reducible refine q_not ?_ | with_reducible refine q_and ?_ | with_reducible refine q_or ?_
    | with_reducible refine q_op ?_ | with_reducible refine q_un ?_ | with_reducible refine q_c ?_ | ((with_reducible show tVar _ _ _ _); refine q_var rfl ?_)
    | with_reducible refine q_i0 ?_ | with_reducible refine q_u ?_ | with_reducible refine q_eq ?_ | with_reducible refine q_ne ?_ | with_reducible refine q_isN ?_ | with_reducible refine q_notN ?_ | with_reducible refine q_min2 ?_ | with_reducible refine q_abs ?_ | with_reducible refine q_int ?_
    | with_reducible refine q_nil ?_ | with_reducible refine q_cons ?_ | with_reducible refine q_tup ?_ | with_reducible refine q_lst ?_ | with_reducible refine q_call ?_ | with_reducible refine q_makeN ?_ | with_reducible refine q_make ?_ | with_reducible refine q_cb ?_
    | ((with_reducible show ite _ _ _); first | refine ift rfl ?_ | refine iff' rfl ?_)))
-- slots: 0 _law_size 1 _law_rules_here 2 _law_table_here 3 _law_found 4 _law_node 5 _law_longer 6 _law_partial 7 _law_level
abbrev s__law_all_worlds : Stmt := topS 53
theorem sc__law_all_worlds : FnScope ["_law_size", "_law_rules_here", "_law_table_here", "_law_found", "_law_node", "_law_longer", "_law_partial", "_law_level"] ["_law_size", "_law_rules_here"] (defScope s__law_all_worlds) := ⟨rfl, rfl, rfl, by decide +kernel, rfl, by decide +kernel, by decide +kernel⟩
section
variable {P : Program} {w : World} {K : PySem.W.Frag} {mg : Str → Option Value} {base : Heap}
/-- a list of k levels, not the list that holds it -/
def wlP (H : Hp) (o : Addr) (k : Nat) (v : V) (L : Nat → Int) : Prop := ∃ p, v = .ref p ∧ p ≠ o ∧ H p = some (.lst (flV (fun i => .int (L i)) k))
theorem wlP.same {H H' : Hp} {o : Addr} {k : Nat} {v : V} {L : Nat → Int} (h : wlP H o k v L) (e : Same H H') : wlP H' o k v L := by
  obtain ⟨p, h1, h2, h3⟩ := h
  exact ⟨p, h1, h2, e _ _ h3⟩
theorem wlP.put {H : Hp} {o : Addr} {k : Nat} {v : V} {L : Nat → Int} {u : HO} (h : wlP H o k v L) : wlP (upd H o u) o k v L := by
  obtain ⟨p, h1, h2, h3⟩ := h
  exact ⟨p, h1, h2, by rw [upd_ne h2]; exact h3⟩
structure Wl (R : Nat → Kw.Row) (h k : Nat) (L : Nat → Int) : Prop where
  z : L 0 = 0
  kp : Kps R h L k
theorem Kps.congr {R : Nat → Kw.Row} {h k : Nat} {L M : Nat → Int} (z : Kps R h L k) (e : ∀ i, i < k → M i = L i) : Kps R h M k := fun i hi l1 l2 a b ea eb => by
  rw [e _ l1, e _ l2]
  exact z i hi l1 l2 a b ea eb
theorem Kps.less {R : Nat → Kw.Row} {h k m : Nat} {L : Nat → Int} (z : Kps R h L k) (le : m ≤ k) : Kps R h L m := fun i hi l1 l2 => z i hi (by omega) (by omega)
def spAll (K : PySem.W.Frag) : Sp := fun vs H Q _ => ∃ (n h : Nat) (ra : Addr) (xs : List V) (R : Nat → Kw.Row) (B : Nat → Int) (E : Nat → Nat), vs = [.int n, .ref ra] ∧ H ra = some (.lst xs) ∧ Tups K H row4 R h xs ∧ 1 ≤ n ∧ n ≤ 16 ∧ h ≤ n ∧ RSet n h R B E ∧ sE (n - 1) E ≤ 8 ∧
  (∀ v, v < n → -(16 * 100000000) ≤ B v ∧ B v ≤ 16 * 100000000) ∧
  ∀ H' o ws vs, Same H H' → H o = none → H' o = some (.lst vs) → Paired (wlP H' o n) vs ws → ws.length ≤ 256 → (∀ L ∈ ws, Wl R h n L) → (∀ x : Nat → Int, x 0 = 0 → Kps R h x n → ∃ L ∈ ws, ∀ i, i < n → L i = x i) → Q (.ref o) H'
theorem ok__law_all_worlds (D : Dk K mg "_law_all_worlds" s__law_all_worlds) (fr : Fr mg) (h__law_table : Has P w K mg base CX0 1 "_law_table" ["_law_size", "_law_arcs_here"] (spTable K)) (h__law_arcs : Has P w K mg base CX0 1 "_law_arcs" ["_law_rows"] (spLawArcs K)) (h__law_keeps : Has P w K mg base CX0 1 "_law_keeps" ["_law_levels", "_law_rules_here"] (spKeeps K)) :
    Has P w K mg base CX0 2 "_law_all_worlds" ["_law_size", "_law_rules_here"] (spAll K) := by
  have sc := sc__law_all_worlds
  refine D.has0 sc (fun vs H Q E h => ?_) (fun _ _ _ _ _ _ us hl => match us, hl with | [_, _], _ => rfl) (fun f cdv A outer s0 H vs Q E0 hr h => ?_)
  · obtain ⟨n, h, ra, xs, R, B, E, rfl, _⟩ := h
    rfl
  · obtain ⟨n, h, ra, xs, R, B, E, rfl, hra, ht, n1, n16, hn, rset, bud, bb, q⟩ := h
    refine ⟨_, (pss_cons (ps_set (i := 2) sc.nd rfl (Or.inl rfl) (pe_has h__law_table (hr.mono (by decide)) pass0 (pa_cons (pv 0) (pa_cons (pe_has h__law_arcs (hr.mono (by decide)) pass0 (pa_cons (pv 1) pa_nil)) pa_nil))))
       (pss_cons (ps_set (i := 3) sc.nd rfl (Or.inl rfl) (pe_lst (pa_cons (pe_lst (pa_cons pe_int pa_nil)) pa_nil)))
       (pss_cons (ps_for PassesOwn.never rfl (pi_range2 (by rfl) fr.range (pa_cons pe_int (pa_cons (pv 0) pa_nil))) (pg_name (i := 4) sc.nd rfl (Or.inl rfl))
        (pss_cons (ps_set (i := 5) sc.nd rfl (Or.inl rfl) (pe_lst pa_nil))
       (pss_cons (ps_for PassesOwn.never rfl (pi_listK (K := K) rfl (pe_callTy (T := "list") (c_list (K := K) rfl) (by rfl) fr.list (by decide +kernel) (pa_cons (pv 3) pa_nil))) (pg_name (i := 6) sc.nd rfl (Or.inl rfl))
        (pss_one (ps_for PassesOwn.never rfl (pi_range2 (by rfl) fr.range (pa_cons (pe_op op_sub pe_int (pe_ixL (K := K) rfl (pe_ixL (K := K) rfl (pv 2) (pv 4) (fun _ _ => rfl)) pe_int (fun _ _ => rfl))) (pa_cons (pe_op op_add (pe_ixL (K := K) rfl (pe_ixL (K := K) rfl (pv 2) pe_int (fun _ _ => rfl)) (pv 4) (fun _ _ => rfl)) pe_int) pa_nil))) (pg_name (i := 7) sc.nd rfl (Or.inl rfl))
        (pss_one (ps_if (pt_val (pe_has h__law_keeps (hr.mono (by decide)) pass0 (pa_cons (pe_op op_cat (pv 6) (pe_lst (pa_cons (pv 7) pa_nil))) (pa_cons (pv 1) pa_nil)))) (pss_one (ps_expr (bmK (K := K) (pe_bm PySem.F.plainAttrs_list PySem.F.slot_list_append PySem.F.type_list_append mt_append (pv 5) (pa_cons (pe_op op_cat (pv 6) (pe_lst (pa_cons (pv 7) pa_nil))) pa_nil)) rfl))) pss_nil)))))
       (pss_one (ps_set (i := 3) sc.nd rfl (Or.inl rfl) (pv 5))))))
       (pss_one (ps_ret (pv 3)))))), ?_⟩
    have potB := (pot_kps rset).mpr (base_kps rset)
    have lt : ∀ i, i < h → (R i).f < n ∧ (R i).s < n := fun i hi => ⟨(rset.rl i hi).f, (rset.rl i hi).s⟩
    have ltA := rArcs_lt lt
    have bnd : ∀ i, i < h → ∃ a b, (R i).lo = some a ∧ (R i).hi = some b := fun i hi => by
      obtain ⟨a, b, e1, e2, _⟩ := (rset.rl i hi).bnd
      exact ⟨a, b, e1, e2⟩
    have hE : ∀ v, 0 < v → v < n → E v ≤ 8 := fun v h1 h2 => Nat.le_trans (sE_le h1 (show v ≤ n - 1 by omega)) bud
    have cl := Kw.clo_ok (n := n) potB
    walk_at "sx"
    refine ⟨ra, h, xs, R, rfl, hra, ht, by omega, bnd, fun H1 aa as s1 naa haa vaa => ?_⟩
    walk_at "sx"
    refine ⟨n, aa, as, rArcs R h, rfl, by omega, haa, vaa, ltA, ⟨_, potB⟩, fun H2 tb rs s2 ntb nrs t2 => ?_⟩
    have s02 := s1.trans s2
    obtain ⟨T, eT⟩ : ∃ T, T = Kw.clo n (rArcs R h) := ⟨_, rfl⟩
    rw [← eT] at t2 cl
    walk_at "sx"
    refine ⟨line_le (n := 1) (by decide), fun w0 nw0 => ?_⟩
    have s3 := same_upd (o := .lst [.int 0]) nw0
    walk_at "sx"
    refine ⟨line_le (n := 1) (by decide), fun fo nfo => ?_⟩
    have s4 := same_upd (o := .lst [.ref w0]) nfo
    have wfo : w0 ≠ fo := ne_of_none upd_same nfo
    walk_at "sx"
    refine q_forR2 (lo := 1) (hi := n) (n := n - 1) ⟨by decide, by decide⟩ ⟨by omega, by omega⟩ (by omega) (fun i σ H' => ∃ y4 y5 y6 y7 fo vs ws, σ = [some (.int n), some (.ref ra), some (.ref tb), some (.ref fo), y4, y5, y6, y7] ∧ Same H2 H' ∧ H2 fo = none ∧ H' fo = some (.lst vs) ∧ Paired (wlP H' fo (i + 1)) vs ws ∧ ws.length ≤ 2 ^ sE i E ∧ (∀ L ∈ ws, Wl R h (i + 1) L) ∧ ∀ x : Nat → Int, x 0 = 0 → Kps R h x n → ∃ L ∈ ws, ∀ j, j < i + 1 → L j = x j) ?_ ?_ ?_ (fun R r => ⟨_, rfl, r⟩)
    · refine ⟨_, _, _, _, fo, _, [fun _ => 0], rfl, s3.trans s4, s3.free nfo, upd_same, .cons ⟨w0, rfl, wfo, s4 _ _ upd_same⟩ .nil, Nat.le_refl _, fun L hL => ?_, fun x hx _ => ⟨_, List.mem_cons_self, fun j hj => by rw [show j = 0 by omega, hx]⟩⟩
      rw [List.mem_singleton.mp hL]
      exact ⟨rfl, fun i hi l1 l2 => absurd (rset.rl i hi).ne (by omega)⟩
    · rintro i σ Hb hi ⟨y4, y5, y6, y7, fo, vs, ws, rfl, s5, nfo, hfo, pfo, lfo, sd, cp⟩
      have hv : i + 1 < n := by omega
      rw [show (1 : Int) + (i : Int) = ((i + 1 : Nat) : Int) by omega]
      obtain ⟨c0, d0, w1, w2, b1, b2⟩ := walks0 rset hE (i + 2) (i + 1) (by omega) hv
      obtain ⟨t1, e1, l1⟩ := cl.known ltA w1
      obtain ⟨t0, e0, l0⟩ := cl.known ltA w2
      have g1 := cl.pot potB e1
      have g0 := cl.pot potB e0
      have bv := bb (i + 1) hv
      have b0 := bb 0 (by omega)
      obtain ⟨i0, hi0, u, hu, jn, ra0, rb0, ea0, eb0, nar⟩ := rset.tree (i + 1) (by omega) hv
      walk_at "sx"
      refine ⟨line_le (n := 0) (by decide), fun lo nlo => ?_⟩
      have s6 := same_upd (o := .lst []) nlo
      have hlo6 : (upd Hb lo (.lst [])) lo = some (.lst []) := upd_same
      generalize upd Hb lo (.lst []) = H6 at s6 hlo6
      have lenE : vs.length = ws.length := Paired.length pfo
      have nloH2 : H2 lo = none := s5.free nlo
      have w8 : ws.length ≤ 256 := Nat.le_trans lfo (by
        have : sE i E ≤ 8 := by
          have : ∀ {k m : Nat}, k ≤ m → sE k E ≤ sE m E := fun {k m} hkm => by
            induction hkm with
            | refl => exact Nat.le_refl _
            | step _ ih => exact Nat.le_trans ih (Nat.le_add_right _ _)
          exact Nat.le_trans (this (show i ≤ n - 1 by omega)) bud
        exact Nat.pow_le_pow_right (by decide) this)
      have e8 := hE (i + 1) (by omega) hv
      have p8 : 2 ^ E (i + 1) ≤ 256 := Nat.pow_le_pow_right (by decide) e8
      walk_at "sx"
      refine ⟨.ref fo, rfl, fo, vs, rfl, .inl (.of (s6 _ _ hfo)), fun c2 nc2 => ⟨c2, rfl, ⟨vs, .of upd_same⟩, for_list (xs := vs) (fun c σ H3 => ∃ y6 y7 vs2 ws2, σ = [some (.int n), some (.ref ra), some (.ref tb), some (.ref fo), some (.int ((i + 1 : Nat) : Int)), some (.ref lo), y6, y7] ∧ Same Hb H3 ∧ H3 c2 = some (.lst vs) ∧ H3 lo = some (.lst vs2) ∧ Paired (wlP H3 lo (i + 2)) vs2 ws2 ∧ ws2.length ≤ c * 2 ^ E (i + 1) ∧
        (∀ L ∈ ws2, Wl R h (i + 2) L) ∧ ∀ c' L, c' < c → ws[c']? = some L → ∀ l : Int, 0 - t0 ≤ l → l < t1 + 1 → Kps R h (Kw.put L (i + 1) l) (i + 2) → ∃ M ∈ ws2, ∀ j, j < i + 2 → M j = Kw.put L (i + 1) l j) ?_ ?_ ?_ ?_⟩⟩
      · have s7 := same_upd (o := .lst vs) nc2
        exact ⟨_, _, [], [], rfl, s6.trans s7, upd_same, s7 _ _ hlo6, .nil, Nat.zero_le _, (fun L hL => nomatch hL), fun c' L z => absurd z (Nat.not_lt_zero _)⟩
      · rintro c σ H3 hc ⟨y6, y7, vs2, ws2, rfl, a1, a2, a3, a4, a5, a6, a7⟩
        exact .of a2
      · rintro c x σ H3 hx ⟨y6, y7, vs2, ws2, rfl, a1, a2, a3, a4, a5, a6, a7⟩
        obtain ⟨L, eL, p, rfl, pne, hp⟩ := paired_r pfo hx
        have hp3 := a1 _ _ hp
        have hpl : p ≠ lo := ne_of_none hp nlo
        have hc : c < ws.length := (List.getElem?_eq_some_iff.mp eL).1
        have wL := sd L (List.mem_of_getElem? eL)
        -- the levels that the node's own rule leaves
        obtain ⟨A, hA⟩ : ∃ A : Int, ∀ l : Int, Kps R h (Kw.put L (i + 1) l) (i + 2) → A ≤ l ∧ l < A + 2 ^ E (i + 1) := by
          rcases jn with ⟨z1, z2⟩ | ⟨z1, z2⟩
          · refine ⟨L u - rb0, fun l k => ?_⟩
            have := k i0 hi0 (by omega) (by omega) ra0 rb0 ea0 eb0
            rw [z1, z2, Kw.put_same, Kw.put_ne (by omega)] at this
            omega
          · refine ⟨L u + ra0, fun l k => ?_⟩
            have := k i0 hi0 (by omega) (by omega) ra0 rb0 ea0 eb0
            rw [z1, z2, Kw.put_same, Kw.put_ne (by omega)] at this
            omega
        have t3 := t2.same (s5.trans a1)
        refine q_gname ?_
        refine q_forR2 (lo := 0 - t0) (hi := t1 + 1) (n := (t1 + 1 - (0 - t0)).toNat) ⟨by omega, by omega⟩ ⟨by omega, by omega⟩ rfl (fun j σ H4 => ∃ y7 vs3 cur, σ = [some (.int n), some (.ref ra), some (.ref tb), some (.ref fo), some (.int ((i + 1 : Nat) : Int)), some (.ref lo), some (.ref p), y7] ∧ Same Hb H4 ∧ H4 c2 = some (.lst vs) ∧ H4 lo = some (.lst vs3) ∧ Paired (wlP H4 lo (i + 2)) vs3 (ws2 ++ cur) ∧ (cur.length : Int) ≤ max 0 (min (0 - t0 + j) (A + 2 ^ E (i + 1)) - A) ∧
          (∀ L ∈ cur, Wl R h (i + 2) L) ∧ ∀ l : Int, 0 - t0 ≤ l → l < 0 - t0 + j → Kps R h (Kw.put L (i + 1) l) (i + 2) → ∃ M ∈ cur, ∀ j, j < i + 2 → M j = Kw.put L (i + 1) l j) ?_ ?_ ?_ (fun R r => ?_)
        · exact ⟨_, vs2, [], rfl, a1, a2, a3, by rw [List.append_nil]; exact a4, by show (0 : Int) ≤ _; omega, (fun L hL => nomatch hL), fun l g1 g2 => by omega⟩
        · rintro j σ H4 hj ⟨y7, vs3, cur, rfl, c1, c2', c3, c4, c5, c6, c7⟩
          obtain ⟨l, hl⟩ : ∃ l : Int, l = 0 - t0 + j := ⟨_, rfl⟩
          rw [← hl]
          have hp4 := c1 _ _ hp
          have hra4 := c1 _ _ (s5 _ _ (s02 _ _ hra))
          have snoc : flV (fun k => V.int (L k)) (i + 1) ++ [V.int l] = flV (fun k => .int (Kw.put L (i + 1) l k)) (i + 2) := by
            rw [← flV_snoc (fun k => V.int (Kw.put L (i + 1) l k)) (i + 1), Kw.put_same]
            congr 1
            exact flV_congr fun k hk => by rw [Kw.put_ne (by omega)]
          -- one partial world and one level, as a new list
          have mk : ∀ (H5 : Hp) (Qv : VK), Same H4 H5 → (∀ p3 H6, Same H5 H6 → H5 p3 = none → H6 p3 = some (.lst (flV (fun k => .int (Kw.put L (i + 1) l k)) (i + 2))) → Qv (.ref p3) H6) →
              [V.int l].length ≤ sizeLine ∧ ∀ p1, H5 p1 = none → rCat (.ref p) (.ref p1) (upd H5 p1 (.lst [.int l])) Qv := fun H5 Qv st qv => by
            refine ⟨line_le (n := 1) (by decide), fun p1 np1 => ?_⟩
            have u1 := same_upd (o := .lst [.int l]) np1
            refine ⟨p, p1, _, [.int l], rfl, rfl, u1 _ _ (st _ _ hp4), upd_same, ?_, fun p2 np2 => ?_⟩
            · rw [flV_len]
              exact line_le (by show i + 1 + 1 ≤ _; omega)
            · have u2 := same_upd (o := .lst (flV (fun k => V.int (L k)) (i + 1) ++ [.int l])) np2
              refine qv p2 _ (u1.trans u2) (u1.free np2) ?_
              rw [upd_same, snoc]
          walk_at "sx"
          refine mk H4 _ (fun _ _ e => e) fun p3 H5 st np3 h3 => ?_
          walk_at "sx"
          refine ⟨p3, ra, Kw.put L (i + 1) l, i + 2, h, xs, R, rfl, .of h3, .of (st _ _ hra4), (ht.same (s02.trans (s5.trans c1))).same st, bnd, fun b hb => ?_⟩
          refine q_bl ?_
          have st4 := c1.trans st
          cases b with
          | false =>
            have nk : ¬ Kps R h (Kw.put L (i + 1) l) (i + 2) := fun z => by
              have := hb.mpr z
              cases this
            walk_at "sx"
            refine ⟨_, vs3, cur, rfl, st4, st _ _ c2', st _ _ c3, Paired.mapP c4 fun v M z => z.same st, ?_, c6, fun l' g1 g2 k => ?_⟩
            · omega
            · by_cases z : l' = l
              · rw [z] at k
                exact absurd k nk
              · exact c7 l' g1 (by omega) k
          | true =>
            have yk := hb.mp rfl
            obtain ⟨A1, A2⟩ := hA l yk
            have c5' := c5
            have lenV : vs3.length = (ws2 ++ cur).length := Paired.length c4
            have small : vs3.length < 1000000 := by
              rw [lenV, List.length_append]
              have q1 : ws2.length ≤ 256 * 256 := Nat.le_trans a5 (Nat.mul_le_mul (by omega) p8)
              have p8i : (2 : Int) ^ E (i + 1) ≤ 256 := by exact_mod_cast p8
              omega
            walk_at "sx"
            refine q_appV rfl (st _ _ c3) ?_
            walk_at "sx"
            refine mk H5 _ st fun p4 H6 st6 np4 h4 => ?_
            walk_at "sx"
            have lo6 := st6 _ _ (st _ _ c3)
            refine q_rapp lo6 (line_of (by omega)) ?_
            walk_at "sx"
            have p4lo : p4 ≠ lo := (ne_of_none (st _ _ c3) np4).symm
            refine ⟨_, vs3 ++ [.ref p4], cur ++ [Kw.put L (i + 1) l], rfl, (st4.trans st6).mut' nlo, ?_, upd_same, ?_, ?_, fun M hM => ?_, fun l' g1 g2 k => ?_⟩
            · have c2lo : c2 ≠ lo := fun z => by
                rw [z] at nc2
                rw [hlo6] at nc2
                cases nc2
              rw [upd_ne c2lo]
              exact st6 _ _ (st _ _ c2')
            · rw [← List.append_assoc]
              exact Paired.app (Paired.mapP c4 fun v M z => ((z.same st).same st6).put) (.cons ⟨p4, rfl, p4lo, by rw [upd_ne p4lo]; exact h4⟩ .nil)
            · rw [List.length_append]
              show ((cur.length + 1 : Nat) : Int) ≤ _
              omega
            · rcases List.mem_append.mp hM with hM | hM
              · exact c6 M hM
              · rw [List.mem_singleton.mp hM]
                exact ⟨by rw [Kw.put_ne (by omega)]; exact wL.z, yk⟩
            · by_cases z : l' = l
              · rw [z]
                exact ⟨_, List.mem_append_right _ List.mem_cons_self, fun _ _ => rfl⟩
              · obtain ⟨M, hM, eM⟩ := c7 l' g1 (by omega) k
                exact ⟨M, List.mem_append_left _ hM, eM⟩
        · rintro σ H4 ⟨y7, vs3, cur, rfl, c1, c2', c3, c4, c5, c6, c7⟩
          refine ⟨_, _, vs3, ws2 ++ cur, rfl, c1, c2', c3, c4, ?_, fun M hM => ?_, fun c' L' hc' e' l g1 g2 k => ?_⟩
          · rw [List.length_append, Nat.succ_mul]
            have pp : (0 : Int) < 2 ^ E (i + 1) := Int.pow_pos (by decide)
            have cc : (cur.length : Int) ≤ 2 ^ E (i + 1) := by omega
            have cc' : cur.length ≤ 2 ^ E (i + 1) := by exact_mod_cast cc
            omega
          · rcases List.mem_append.mp hM with hM | hM
            · exact a6 M hM
            · exact c6 M hM
          · by_cases z : c' = c
            · subst z
              rw [eL] at e'
              cases e'
              obtain ⟨M, hM, eM⟩ := c7 l g1 (by omega) k
              exact ⟨M, List.mem_append_right _ hM, eM⟩
            · obtain ⟨M, hM, eM⟩ := a7 c' L' (by omega) e' l g1 g2 k
              exact ⟨M, List.mem_append_left _ hM, eM⟩
        · walk_at "sx"
          refine q_ixLn t3.top (flV_get hv) ?_
          walk_at "sx"
          refine q_ixL (.of (t3.row _ hv)) (atI_nat (j := 0) (flV_get (show 0 < n by omega))) ?_
          rw [e0]
          walk_at "sx"
          refine q_ixL (.of t3.top) (atI_nat (j := 0) (flV_get (show 0 < n by omega))) ?_
          walk_at "sx"
          refine q_ixLn (t3.row 0 (by omega)) (flV_get hv) ?_
          rw [e1]
          walk_at "sx"
          exact r
      · rintro σ H3 ⟨y6, y7, vs2, ws2, rfl, a1, a2, a3, a4, a5, a6, a7⟩
        rw [lenE] at a5 a7
        walk_at "sx"
        refine ⟨_, _, _, _, lo, vs2, ws2, rfl, s5.trans a1, nloH2, a3, a4, ?_, a6, fun x x0 kx => ?_⟩
        · refine Nat.le_trans a5 ?_
          show _ ≤ 2 ^ (sE i E + E (i + 1))
          rw [Nat.pow_add]
          exact Nat.mul_le_mul_right _ lfo
        · obtain ⟨L, hL, eL⟩ := cp x x0 kx
          obtain ⟨c', e'⟩ := List.getElem?_of_mem hL
          have px := (pot_kps rset).mpr kx
          have x1 := cl.pot px e1
          have x2 := cl.pot px e0
          have agree : ∀ j, j < i + 2 → Kw.put L (i + 1) (x (i + 1)) j = x j := fun j hj => by
            by_cases z : j = i + 1
            · rw [z, Kw.put_same]
            · rw [Kw.put_ne z]
              exact eL j (by omega)
          obtain ⟨M, hM, eM⟩ := a7 c' L (List.getElem?_eq_some_iff.mp e').1 e' (x (i + 1)) (by omega) (by omega) ((kx.less (show i + 2 ≤ n by omega)).congr agree)
          exact ⟨M, hM, fun j hj => by rw [eM j hj, agree j hj]⟩
    · rintro σ H' ⟨y4, y5, y6, y7, fo, vs, ws, rfl, s5, nfo, hfo, pfo, lfo, sd, cp⟩
      rw [show n - 1 + 1 = n by omega] at pfo sd cp
      walk_at "sx"
      refine q H' fo ws vs (s02.trans s5) (s02.free nfo) hfo pfo (Nat.le_trans lfo ?_) sd cp
      exact Nat.pow_le_pow_right (by decide) bud
end
end Kt

namespace Kt
open PySem PySem.Spec PyProof.Rows L2
local macro_rules
  | `(tactic| walk_at "sx") => `(tactic| repeat (first
    | with_reducible refine q_seq ?_ | with_reducible refine q_par ?_ | with_reducible refine q_augS ?_ | with_reducible refine q_rev ?_ | with_reducible refine q_yes ?_ | with_reducible refine q_gname ?_ | with_reducible refine q_setG ?_ | with_reducible refine q_ip ?_ | with_reducible refine q_asg ?_ | with_reducible refine q_asgG ?_ | with_reducible refine q_ret ?_ | with_reducible refine q_drop ?_ | with_reducible refine q_if ?_ | with_reducible refine q_next ?_
    | with_reducible refine q_test ?_ | with_reducible refine q_tB ?_ | with_reducible refine q_chain ?_ | with_reducible refine q_andV ?_ | with_reducible refine q_bl ?_ | with_reducible refine q_exint ?_ | ((with_reducible show tAug _ _ _ _ _ _); refine q_aug rfl ?_) | with_reducible refine q_not ?_ | with_reducible refine q_and ?_ | with_reducible refine q_or ?_
    | with_reducible refine q_op ?_ | with_reducible refine q_un ?_ | with_reducible refine q_c ?_ | ((with_reducible show tVar _ _ _ _); refine q_var rfl ?_)
    | with_reducible refine q_i0 ?_ | with_reducible refine q_u ?_ | with_reducible refine q_eq ?_ | with_reducible refine q_ne ?_ | with_reducible refine q_isN ?_ | with_reducible refine q_notN ?_ | with_reducible refine q_min2 ?_ | with_reducible refine q_abs ?_ | with_reducible refine q_int ?_
    | with_reducible refine q_nil ?_ | with_reducible refine q_cons ?_ | with_reducible refine q_tup ?_ | with_reducible refine q_lst ?_ | with_reducible refine q_call ?_ | with_reducible refine q_makeN ?_ | with_reducible refine q_make ?_ | with_reducible refine q_cb ?_
    | ((with_reducible show ite _ _ _); first | refine ift rfl ?_ | refine iff' rfl ?_)))
-- slots: 0 _law_source_here 1 _law_tells_here 2 _law_size 3 _law_index 4 _law_node 5 _law_other 6 _law_row
abbrev s__law_strange : Stmt := topS 63
theorem sc__law_strange : FnScope ["_law_source_here", "_law_tells_here", "_law_size", "_law_index", "_law_node", "_law_other", "_law_row"] ["_law_source_here", "_law_tells_here", "_law_size"] (defScope s__law_strange) := ⟨rfl, rfl, rfl, by decide +kernel, rfl, by decide +kernel, by decide +kernel⟩
section
variable {P : Program} {w : World} {K : PySem.W.Frag} {mg : Str → Option Value} {base : Heap}
theorem Tups.one {H : Hp} {f : Kw.Row → List V} {p : Addr} {r : Kw.Row} (h : SqT K H p (f r)) : Tups K H f (fun _ => r) 1 [.ref p] := ⟨rfl, fun i hi => ⟨p, by rw [show i = 0 by omega]; rfl, h⟩⟩
theorem Tel.clm {n : Nat} {r : Kw.Row} (h : Tel n r) (hn : n ≤ 16) : ClmOk r := by
  obtain ⟨wt, e, h1, h2⟩ := h.rm
  have := h.f
  have := h.s
  exact ⟨by omega, by omega, h.le, wt, e, h1, by omega⟩
def spStrange (K : PySem.W.Frag) : Sp := fun vs H Q _ => ∃ (s ta : Addr) (n m : Nat) (ys : List V) (T : Nat → Kw.Row), vs = [.ref s, .ref ta, .int n] ∧ SrcAt H s ∧ ta ≠ s ∧ H ta = some (.lst ys) ∧ Tups K H row5 T m ys ∧ 1 ≤ n ∧ n ≤ 15 ∧ m ≤ 14 ∧ (∀ i, i < m → Tel n (T i)) ∧
  ∀ H' o p zs T2 k, Keep (· = s) H H' → H o = none → H' o = some (.lst [.ref p, .int (k : Nat)]) → H p = none → H' p = some (.lst zs) → Tups K H' row5 T2 (m + 2) zs → k ≤ m → (∀ i, i < k → (T2 i).f < n ∧ (T2 i).s < n) → ¬ ((T2 k).f < n ∧ (T2 k).s < n) → (∀ i, i < m + 2 → ClmOk (T2 i)) → Q (.ref o) H'
theorem ok__law_strange (D : Dk K mg "_law_strange" s__law_strange) (fr : Fr mg) (h__law_draw : Has P w K mg base CX0 1 "_law_draw" ["_law_source_here", "_law_size"] (spDraw K)) (h__law_between : Has P w K mg base CX0 2 "_law_between" ["_law_source_here", "_law_least", "_law_most"] (spBetween K)) :
    Has P w K mg base CX0 3 "_law_strange" ["_law_source_here", "_law_tells_here", "_law_size"] (spStrange K) := by
  have sc := sc__law_strange
  refine D.has0 sc (fun vs H Q E h => ?_) (fun _ _ _ _ _ _ us hl => match us, hl with | [_, _, _], _ => rfl) (fun f cdv A outer s0 H vs Q E0 hr h => ?_)
  · obtain ⟨s, ta, n, m, ys, T, rfl, _⟩ := h
    rfl
  · obtain ⟨s, ta, n, m, ys, T, rfl, hs, ts, hta, ht, n1, n15, hm, tel, q⟩ := h
    refine ⟨_, (pss_cons (ps_set (i := 3) sc.nd rfl (Or.inl rfl) (pe_has h__law_draw (hr.mono (by decide)) pass0 (pa_cons (pv 0) (pa_cons (pe_op op_add (pe_callB (id := "len") (c_len (K := K) rfl) (by rfl) fr.len (by decide +kernel) (pa_cons (pv 1) pa_nil)) pe_int) pa_nil))))
       (pss_cons (ps_set (i := 4) sc.nd rfl (Or.inl rfl) (pv 2))
       (pss_mid (ps_if (pt_cmpR op_eq (pe_has h__law_draw (hr.mono (by decide)) pass0 (pa_cons (pv 0) (pa_cons pe_int pa_nil))) pe_int (nomark _)) (pss_one (ps_set (i := 4) sc.nd rfl (Or.inl rfl) (pe_has h__law_between (hr.mono (by decide)) pass0 (pa_cons (pv 0) (pa_cons (pv 2) (pa_cons pe_int pa_nil)))))) pss_nil)
       (pss_cons (ps_set (i := 5) sc.nd rfl (Or.inl rfl) (pe_has h__law_draw (hr.mono (by decide)) pass0 (pa_cons (pv 0) (pa_cons (pv 2) pa_nil))))
       (pss_cons (ps_set (i := 6) sc.nd rfl (Or.inl rfl) (pe_tup (pa_cons (pv 5) (pa_cons (pv 4) (pa_cons pe_int (pa_cons pe_int (pa_cons pe_int pa_nil)))))))
       (pss_mid (ps_if (pt_cmpR op_eq (pe_has h__law_draw (hr.mono (by decide)) pass0 (pa_cons (pv 0) (pa_cons pe_int pa_nil))) pe_int (nomark _)) (pss_one (ps_set (i := 6) sc.nd rfl (Or.inl rfl) (pe_tup (pa_cons (pv 4) (pa_cons (pv 5) (pa_cons pe_non (pa_cons pe_int (pa_cons pe_int pa_nil)))))))) pss_nil)
       (pss_one (ps_ret (pe_lst (pa_cons (pe_op op_cat (pe_op op_cat (pe_op op_cat (pe_slice sl_list (pv 1) po_none (po_some (pv 3))) (pe_lst (pa_cons (pv 6) pa_nil))) (pe_slice sl_list (pv 1) (po_some (pv 3)) po_none)) (pe_lst (pa_cons (pe_tup (pa_cons pe_int (pa_cons pe_int (pa_cons pe_non (pa_cons pe_non (pa_cons pe_int pa_nil)))))) pa_nil))) (pa_cons (pv 3) pa_nil))))))))))), ?_⟩
    walk_at "sx"
    refine q_len (.of hta) ?_
    walk_at "sx"
    rw [ht.1]
    refine ⟨s, _, rfl, hs, by omega, by omega, fun H1 k k1 s1 l1 => ?_⟩
    have hk : k ≤ m := by omega
    walk_at "sx"
    refine ⟨fun σ H' => Keep (· = s) H H' ∧ SrcAt H' s ∧ ∃ nd : Nat, n ≤ nd ∧ nd ≤ 15 ∧ σ = [some (.ref s), some (.ref ta), some (.int n), some (.int k), some (.int nd), none, none], ?_, ?_⟩
    · walk_at "sx"
      refine ⟨s, _, rfl, s1, by omega, by omega, fun H2 x2 k2 s2 l2 => ?_⟩
      walk_at "sx"
      refine ifd (fun e => ?_) (fun e => ?_)
      · walk_at "sx"
        refine ⟨s, _, _, rfl, s2, by omega, by omega, fun H3 x3 k3 s3 g1 g2 => ?_⟩
        refine ⟨(k1.trans k2).trans k3, s3, x3.toNat, by omega, by omega, ?_⟩
        rw [show ((x3.toNat : Nat) : Int) = x3 by omega]
        rfl
      · walk_at "sx"
        exact ⟨k1.trans k2, s2, n, by omega, by omega, rfl⟩
    rintro σ H2 ⟨k2, s2, nd, d1, d2, rfl⟩
    walk_at "sx"
    refine ⟨s, _, rfl, s2, by omega, by omega, fun H3 ot k3 s3 l3 => ?_⟩
    have ot15 : ot < n := by omega
    walk_at "sx"
    refine ⟨line_le (n := 5) (by decide), fun t nt => ?_⟩
    have u1 := same_upd (o := .tup [.int ot, .int nd, .int 0, .int 0, .int 1]) nt
    have htt : (upd H3 t (.tup [.int ot, .int nd, .int 0, .int 0, .int 1])) t = some (.tup (row5 ⟨ot, nd, some 0, some 0, some 1⟩)) := upd_same
    generalize upd H3 t (.tup [.int ot, .int nd, .int 0, .int 0, .int 1]) = H4 at u1 htt
    walk_at "sx"
    refine ⟨fun σ H' => Keep (· = s) H H' ∧ SrcAt H' s ∧ ∃ t r, SqT K H' t (row5 r) ∧ ¬ (r.f < n ∧ r.s < n) ∧ ClmOk r ∧ σ = [some (.ref s), some (.ref ta), some (.int n), some (.int k), some (.int nd), some (.int ot), some (.ref t)], ?_, ?_⟩
    · walk_at "sx"
      refine ⟨s, _, rfl, s3.same u1, by omega, by omega, fun H5 x5 k5 s5 l5 => ?_⟩
      have k15 := ((k2.trans k3).trans (Same.keep u1)).trans k5
      walk_at "sx"
      refine ifd (fun e => ?_) (fun e => ?_)
      · walk_at "sx"
        refine ⟨line_le (n := 5) (by decide), fun t2 nt2 => ?_⟩
        have u2 := same_upd (o := .tup [.int nd, .int ot, .non, .int 0, .int 2]) nt2
        walk_at "sx"
        refine ⟨k15.trans (Same.keep u2), s5.same u2, t2, ⟨nd, ot, none, some 0, some 2⟩, .of upd_same, fun z => absurd z.1 (by show ¬ nd < n; omega), ⟨by show nd ≤ 15; omega, by show ot ≤ 15; omega, (fun a b z => nomatch z), 2, rfl, by decide, by decide⟩, rfl⟩
      · walk_at "sx"
        refine ⟨k15, s5, t, ⟨ot, nd, some 0, some 0, some 1⟩, k5.sqt (s3.same u1).lst (.of htt), fun z => absurd z.2 (by show ¬ nd < n; omega), ⟨by show ot ≤ 15; omega, by show nd ≤ 15; omega, fun a b y z => by cases y; cases z; decide, 1, rfl, by decide, by decide⟩, rfl⟩
    rintro σ H5 ⟨k5, s5, t, r, hr5, rbad, rok, rfl⟩
    have hta5 := k5 _ _ ts hta
    have ht5 := ht.keep k5 hs.lst
    walk_at "sx"
    refine q_sl ?_
    walk_at "sx"
    refine q_nopart ?_
    refine q_part ?_
    walk_at "sx"
    refine q_slT (.of hta5) (by rw [ht.1]; exact hk) fun p1 np1 => ?_
    have v1 := same_upd (o := .lst (ys.take k)) np1
    walk_at "sx"
    refine ⟨line_le (n := 1) (by decide), fun p2 np2 => ?_⟩
    have v2 := same_upd (o := .lst [.ref t]) np2
    refine ⟨p1, p2, _, _, rfl, rfl, v2 _ _ upd_same, upd_same, ?_, fun p3 np3 => ?_⟩
    · rw [List.length_take, ht.1]
      exact line_le (by show min k m + 1 ≤ _; omega)
    have v3 := same_upd (o := .lst (ys.take k ++ [.ref t])) np3
    have v13 := (v1.trans v2).trans v3
    refine q_sl ?_
    walk_at "sx"
    refine q_part ?_
    walk_at "sx"
    refine q_nopart ?_
    refine q_slF (.of (v13 _ _ hta5)) (by rw [ht.1]; exact hk) fun p4 np4 => ?_
    have v4 := same_upd (o := .lst (ys.drop k)) np4
    refine ⟨p3, p4, _, _, rfl, rfl, v4 _ _ upd_same, upd_same, ?_, fun p5 np5 => ?_⟩
    · rw [List.length_append, List.length_take, List.length_drop, ht.1]
      exact line_le (by show min k m + 1 + (m - k) ≤ _; omega)
    have v5 := same_upd (o := .lst (ys.take k ++ [.ref t] ++ ys.drop k)) np5
    have v15 := (v13.trans v4).trans v5
    walk_at "sx"
    refine ⟨line_le (n := 5) (by decide), fun p6 np6 => ?_⟩
    have v6 := same_upd (o := .tup [.int 15, .int 15, .non, .non, .int 1]) np6
    walk_at "sx"
    refine ⟨line_le (n := 1) (by decide), fun p7 np7 => ?_⟩
    have v7 := same_upd (o := .lst [.ref p6]) np7
    refine ⟨p5, p7, _, _, rfl, rfl, v7 _ _ (v6 _ _ upd_same), upd_same, ?_, fun p8 np8 => ?_⟩
    · rw [List.length_append, List.length_append, List.length_take, List.length_drop, ht.1]
      exact line_le (by show min k m + 1 + (m - k) + 1 ≤ _; omega)
    have v8 := same_upd (o := .lst (ys.take k ++ [.ref t] ++ ys.drop k ++ [.ref p6])) np8
    have v18 := ((v15.trans v6).trans v7).trans v8
    walk_at "sx"
    refine ⟨line_le (n := 2) (by decide), fun fin nfin => ?_⟩
    have v9 := same_upd (o := .lst [.ref p8, .int k]) nfin
    have v19 := v18.trans v9
    have tt := ((((ht5.same v19).take hk).cat (Tups.one (Same.sqt v19 hr5))).cat ((ht5.same v19).drop hk)).cat (Tups.one (r := ⟨15, 15, none, none, some 1⟩) (.of ((v7.trans (v8.trans v9)) _ _ upd_same)))
    rw [show k + 1 + (m - k) + 1 = m + 2 by omega] at tt
    have fH : ∀ {b}, H5 b = none → H b = none := fun {b} z => k5.freeW z (s5.ne z)
    have g1 : ∀ i, i < k → cat (cat (cat T k fun _ => r) (k + 1) fun i => T (k + i)) (k + 1 + (m - k)) (fun _ => ⟨15, 15, none, none, some 1⟩) i = T i := fun i hi => by rw [cat_l (by omega), cat_l (by omega), cat_l hi]
    have g2 : cat (cat (cat T k fun _ => r) (k + 1) fun i => T (k + i)) (k + 1 + (m - k)) (fun _ => ⟨15, 15, none, none, some 1⟩) k = r := by
      rw [cat_l (by omega), cat_l (by omega)]
      exact if_neg (Nat.lt_irrefl _)
    refine q _ fin p8 _ _ k (k5.trans (Same.keep v19)) (fH (v18.free nfin)) upd_same (fH (((v15.trans v6).trans v7).free np8)) (v9 _ _ upd_same) tt hk (fun i hi => ?_) (by rw [g2]; exact rbad) fun i hi => ?_
    · rw [g1 i hi]
      exact ⟨(tel i (by omega)).f, (tel i (by omega)).s⟩
    · by_cases z1 : i < k
      · rw [g1 i z1]
        exact (tel i (by omega)).clm (by omega)
      · by_cases z2 : i = k
        · rw [z2, g2]
          exact rok
        · by_cases z3 : i < k + 1 + (m - k)
          · rw [cat_l z3]
            have e : cat (cat T k fun _ => r) (k + 1) (fun i => T (k + i)) i = T (k + (i - (k + 1))) := if_neg (by omega)
            rw [e]
            exact (tel _ (by omega)).clm (by omega)
          · have e : cat (cat (cat T k fun _ => r) (k + 1) fun i => T (k + i)) (k + 1 + (m - k)) (fun _ => ⟨15, 15, none, none, some 1⟩) i = ⟨15, 15, none, none, some 1⟩ := if_neg z3
            rw [e]
            exact ⟨by decide, by decide, (fun a b y => nomatch y), 1, rfl, by decide, by decide⟩
end
end Kt

namespace Kt
open PySem PySem.Spec PyProof.Rows L2
local macro_rules
  | `(tactic| walk_at "sx") => `(tactic| repeat (first
    | with_reducible refine q_seq ?_ | with_reducible refine q_par ?_ | with_reducible refine q_augS ?_ | with_reducible refine q_rev ?_ | with_reducible refine q_yes ?_ | with_reducible refine q_gname ?_ | with_reducible refine q_setG ?_ | with_reducible refine q_ip ?_ | with_reducible refine q_asg ?_ | with_reducible refine q_asgG ?_ | with_reducible refine q_ret ?_ | with_reducible refine q_drop ?_ | with_reducible refine q_if ?_ | with_reducible refine q_next ?_
    | with_reducible refine q_test ?_ | with_reducible refine q_tB ?_ | with_reducible refine q_chain ?_ | with_reducible refine q_andV ?_ | with_reducible refine q_bl ?_ | with_reducible refine q_exint ?_ | ((with_reducible show tAug _ _ _ _ _ _); refine q_aug rfl ?_) | with_reducible refine q_not ?_ | with_reducible refine q_and ?_ | with_reducible refine q_or ?_
    | with_reducible refine q_op ?_ | with_reducible refine q_un ?_ | with_reducible refine q_c ?_ | ((with_reducible show tVar _ _ _ _); refine q_var rfl ?_)
    | with_reducible refine q_i0 ?_ | with_reducible refine q_u ?_ | with_reducible refine q_eq ?_ | with_reducible refine q_ne ?_ | with_reducible refine q_isN ?_ | with_reducible refine q_notN ?_ | with_reducible refine q_min2 ?_ | with_reducible refine q_abs ?_ | with_reducible refine q_int ?_
    | with_reducible refine q_nil ?_ | with_reducible refine q_cons ?_ | with_reducible refine q_tup ?_ | with_reducible refine q_lst ?_ | with_reducible refine q_call ?_ | with_reducible refine q_makeN ?_ | with_reducible refine q_make ?_ | with_reducible refine q_cb ?_
    | ((with_reducible show ite _ _ _); first | refine ift rfl ?_ | refine iff' rfl ?_)))
-- slots: 0 _law_worlds 1 _law_tells_here 2 _law_costs 3 _law_levels 4 _law_least 5 _law_index
abbrev s__law_cheapest : Stmt := topS 64
theorem sc__law_cheapest : FnScope ["_law_worlds", "_law_tells_here", "_law_costs", "_law_levels", "_law_least", "_law_index"] ["_law_worlds", "_law_tells_here"] (defScope s__law_cheapest) := ⟨rfl, rfl, rfl, by decide +kernel, rfl, by decide +kernel, by decide +kernel⟩
section
variable {P : Program} {w : World} {K : PySem.W.Frag} {mg : Str → Option Value} {base : Heap}
/-- the growth of a world -/
def gro (T : Nat → Kw.Row) (m : Nat) (L : Nat → Int) : Int := Kw.sm m fun i => Kw.cost (T i) (Kw.dif L (T i))
def spLCheap (K : PySem.W.Frag) : Sp := fun vs H Q _ => ∃ (wo ta : Addr) (n m : Nat) (vs1 ys : List V) (ws : List (Nat → Int)) (T : Nat → Kw.Row), vs = [.ref wo, .ref ta] ∧ H wo = some (.lst vs1) ∧ Paired (wlP H wo n) vs1 ws ∧ ws ≠ [] ∧ ws.length ≤ 256 ∧ SqL K H ta ys ∧ Tups K H row5 T m ys ∧ m ≤ 100 ∧ (∀ i, i < m → Tel n (T i)) ∧
  ∀ H' o vs2 cs g, Same H H' → H o = none → H' o = some (.lst vs2) → Paired (wlP H' o n) vs2 cs → (∀ L ∈ ws, g ≤ gro T m L) → (∀ L, L ∈ cs ↔ L ∈ ws ∧ gro T m L = g) → cs ≠ [] → cs.length ≤ 256 → (∀ x ∈ vs2, x ∈ vs1) → Q (.ref o) H'
theorem ok__law_cheapest (D : Dk K mg "_law_cheapest" s__law_cheapest) (fr : Fr mg) (h__law_growth : Has P w K mg base CX0 2 "_law_growth" ["_law_levels", "_law_tells_here"] (spGrowth K)) : Has P w K mg base CX0 3 "_law_cheapest" ["_law_worlds", "_law_tells_here"] (spLCheap K) := by
  have sc := sc__law_cheapest
  refine D.has0 sc (fun vs H Q E h => ?_) (fun _ _ _ _ _ _ us hl => match us, hl with | [_, _], _ => rfl) (fun f cdv A outer s0 H vs Q E0 hr h => ?_)
  · obtain ⟨wo, ta, n, m, vs1, ys, ws, T, rfl, _⟩ := h
    rfl
  · obtain ⟨wo, ta, n, m, vs1, ys, ws, T, rfl, hwo, pw, wne, w256, hta, ht, hm, tel, q⟩ := h
    refine ⟨_, (pss_cons (ps_set (i := 2) sc.nd rfl (Or.inr rfl) (pe_lc (own := [("_law_levels", 3)]) (g := gName 3) (tt := tYes) rfl sc.nd (pi_listK (K := K) rfl (pv 0)) (blkOk_by (by kernel_rfl)) (fun _ _ _ _ _ => (pg_name (i := 3) sc.nd rfl (Or.inl rfl))) (fun _ _ _ _ _ => pts_nil) (fun _ _ _ _ _ => (pe_has h__law_growth (hr.mono (by decide)) pass0 (pa_cons (pv 3) (pa_cons (pv 1) pa_nil))))))
       (pss_cons (ps_set (i := 4) sc.nd rfl (Or.inr rfl) (pe_callB (id := "min") (c_min (K := K) rfl rfl) (by rfl) fr.min (by decide +kernel) (pa_cons (pv 2) pa_nil)))
       (pss_one (ps_ret (pe_lc (own := [("_law_index", 5)]) (g := gName 5) rfl sc.nd (pi_range1 (by rfl) fr.range (pa_cons (pe_callB (id := "len") (c_len (K := K) rfl) (by rfl) fr.len (by decide +kernel) (pa_cons (pv 0) pa_nil)) pa_nil)) (blkOk_by (by kernel_rfl)) (fun _ _ _ _ _ => (pg_name (i := 5) sc.nd rfl (Or.inl rfl))) (fun _ _ _ _ _ => (pts_one (pt_cmpR op_eq (pe_ixL (K := K) rfl (pv 2) (pv 5) (fun _ _ => rfl)) (pv 4) (nomark _)))) (fun _ _ _ _ _ => (pe_ixL (K := K) rfl (pv 0) (pv 5) (fun _ _ => rfl)))))))), ?_⟩
    have lenW : vs1.length = ws.length := Paired.length pw
    walk_at "sx"
    refine q_lcL rfl (.of hwo) fun co nco => ⟨fun i H' => Same H H' ∧ H' co = some (.lst (((ws.take i).map (gro T m)).map V.int)), ⟨same_upd nco, upd_same⟩, ?_, ?_, ?_⟩
    · rintro i H' hi ⟨s1, h1⟩
      exact .of (s1 _ _ hwo)
    · rintro i x H' hx ⟨s1, h1⟩
      obtain ⟨L, eL, p, rfl, pne, hp⟩ := paired_r pw hx
      refine q_gname ?_
      refine ⟨wipe1, ?_⟩
      walk_at "sx"
      refine ⟨p, ta, L, n, m, ys, T, rfl, .of (s1 _ _ hp), Same.sql s1 hta, ht.same s1, hm, tel, fun H2 s2 => ?_⟩
      refine ⟨_, s2 _ _ h1, line_of (by rw [List.length_map, List.length_map, List.length_take]; omega), (s1.trans s2).mut' nco, ?_⟩
      rw [upd_same, take_snoc eL, List.map_append, List.map_append]
      rfl
    · rintro H1 ⟨s1, h1⟩
      rw [lenW, List.take_length] at h1
      walk_at "sx"
      refine ⟨co, ws.map (gro T m), rfl, .of h1, ?_, fun g gm gl => ?_⟩
      · rw [List.length_map]
        cases ws with
        | nil => exact absurd rfl wne
        | cons a l => exact Nat.succ_pos _
      obtain ⟨L0, hL0, eL0⟩ := List.mem_map.mp gm
      have gle : ∀ L ∈ ws, g ≤ gro T m L := fun L hL => gl _ (List.mem_map_of_mem hL)
      walk_at "sx"
      refine q_lcRL rfl (.of (s1 _ _ hwo)) ⟨vs1.length, rfl, by omega, fun o no => ⟨fun i H' => ∃ vs2, H' = upd H1 o (.lst vs2) ∧ vs2.length ≤ i ∧ (∀ x ∈ vs2, x ∈ vs1) ∧ Paired (wlP H' o n) vs2 ((ws.take i).filter fun L => decide (gro T m L = g)), ?_, ?_, ?_⟩⟩
      · exact ⟨[], rfl, Nat.le_refl _, (fun x hx => by cases hx), .nil⟩
      · rintro i H' hi ⟨vs2, rfl, l2, in2, p2⟩
        have st : Same H1 (upd H1 o (.lst vs2)) := same_upd no
        obtain ⟨L, eL⟩ : ∃ L, ws[i]? = some L := ⟨_, List.getElem?_eq_getElem (show i < ws.length by omega)⟩
        obtain ⟨v, ev⟩ : ∃ v, vs1[i]? = some v := ⟨_, List.getElem?_eq_getElem hi⟩
        obtain ⟨L', eL', p, rfl, pne, hp⟩ := paired_r pw ev
        rw [eL] at eL'
        cases eL'
        have ec : ((ws.map (gro T m)).map V.int)[i]? = some (.int (gro T m L)) := by
          rw [List.getElem?_map, List.getElem?_map, eL]
          rfl
        have npo : p ≠ o := ne_of_none (s1 _ _ hp) no
        walk_at "sx"
        refine q_ixL (.of (st _ _ h1)) (atI_nat ec) ?_
        walk_at "sx"
        refine ifd (fun e => ?_) (fun e => ?_)
        · walk_at "sx"
          refine q_ixL (.of (st _ _ (s1 _ _ hwo))) (atI_nat ev) ?_
          refine ⟨vs2, upd_same, line_of (by omega), vs2 ++ [.ref p], by rw [upd_upd], by rw [List.length_append]; show vs2.length + 1 ≤ _; omega, fun x hx => ?_, ?_⟩
          · rcases List.mem_append.mp hx with hx | hx
            · exact in2 x hx
            · rw [List.mem_singleton.mp hx]
              exact List.mem_of_getElem? ev
          rw [take_snoc eL, List.filter_append]
          have e1 : ([L].filter fun L => decide (gro T m L = g)) = [L] := by
            rw [List.filter_cons, if_pos (decide_eq_true e)]
            rfl
          rw [e1]
          refine Paired.app (Paired.mapP p2 fun v M z => z.put) (.cons ⟨p, rfl, npo, ?_⟩ .nil)
          rw [upd_ne npo, upd_ne npo]
          exact s1 _ _ hp
        · refine ⟨vs2, rfl, by omega, in2, ?_⟩
          rw [take_snoc eL, List.filter_append]
          have e1 : ([L].filter fun L => decide (gro T m L = g)) = [] := by
            rw [List.filter_cons, if_neg (by simpa using e)]
            rfl
          rw [e1, List.append_nil]
          exact p2
      · rintro H2 ⟨vs2, rfl, l2, in2, p2⟩
        rw [lenW, List.take_length] at p2
        refine q _ o vs2 _ g (s1.trans (same_upd no)) (s1.free no) upd_same p2 gle (fun L => ?_) (fun z => ?_) (Nat.le_trans (List.length_filter_le _ _) w256) in2
        · rw [List.mem_filter, decide_eq_true_iff]
        · have : L0 ∈ (ws.filter fun L => decide (gro T m L = g)) := List.mem_filter.mpr ⟨hL0, decide_eq_true eL0⟩
          rw [z] at this
          cases this
end
end Kt

namespace Kt
open PySem PySem.Spec PyProof.Rows L2
local macro_rules
  | `(tactic| walk_at "sx") => `(tactic| repeat (first
    | with_reducible refine q_seq ?_ | with_reducible refine q_par ?_ | with_reducible refine q_augS ?_ | with_reducible refine q_rev ?_ | with_reducible refine q_yes ?_ | with_reducible refine q_gname ?_ | with_reducible refine q_setG ?_ | with_reducible refine q_ip ?_ | with_reducible refine q_asg ?_ | with_reducible refine q_asgG ?_ | with_reducible refine q_ret ?_ | with_reducible refine q_drop ?_ | with_reducible refine q_if ?_ | with_reducible refine q_next ?_
    | with_reducible refine q_test ?_ | with_reducible refine q_tB ?_ | with_reducible refine q_chain ?_ | with_reducible refine q_andV ?_ | with_reducible refine q_bl ?_ | with_reducible refine q_exint ?_ | ((with_reducible show tAug _ _ _ _ _ _); refine q_aug rfl ?_) | with_reducible refine q_not ?_ | with_reducible refine q_and ?_ | with_reducible refine q_or ?_
    | with_reducible refine q_op ?_ | with_reducible refine q_un ?_ | with_reducible refine q_c ?_ | ((with_reducible show tVar _ _ _ _); refine q_var rfl ?_)
    | with_reducible refine q_i0 ?_ | with_reducible refine q_u ?_ | with_reducible refine q_eq ?_ | with_reducible refine q_ne ?_ | with_reducible refine q_isN ?_ | with_reducible refine q_notN ?_ | with_reducible refine q_min2 ?_ | with_reducible refine q_abs ?_ | with_reducible refine q_int ?_
    | with_reducible refine q_nil ?_ | with_reducible refine q_cons ?_ | with_reducible refine q_tup ?_ | with_reducible refine q_lst ?_ | with_reducible refine q_call ?_ | with_reducible refine q_makeN ?_ | with_reducible refine q_make ?_ | with_reducible refine q_cb ?_
    | ((with_reducible show ite _ _ _); first | refine ift rfl ?_ | refine iff' rfl ?_)))
-- slots: 0 _law_cheapest_here 1 _law_size 2 _law_table_here 3 _law_node 4 _law_levels 5 _law_other
abbrev s__law_widest : Stmt := topS 65
theorem sc__law_widest : FnScope ["_law_cheapest_here", "_law_size", "_law_table_here", "_law_node", "_law_levels", "_law_other"] ["_law_cheapest_here", "_law_size"] (defScope s__law_widest) := ⟨rfl, rfl, rfl, by decide +kernel, rfl, by decide +kernel, by decide +kernel⟩
section
variable {P : Program} {w : World} {K : PySem.W.Frag} {mg : Str → Option Value} {base : Heap}
/-- c is the greatest difference from i to j over the worlds cs -/
def Gst (cs : List (Nat → Int)) (i j : Nat) (c : Int) : Prop := (∀ L ∈ cs, L j - L i ≤ c) ∧ ∃ L ∈ cs, L j - L i = c
def spWidest (K : PySem.W.Frag) : Sp := fun vs H Q _ => ∃ (co : Addr) (n : Nat) (vs2 : List V) (cs : List (Nat → Int)), vs = [.ref co, .int n] ∧ n ≤ 16 ∧ H co = some (.lst vs2) ∧ Paired (wlP H co n) vs2 cs ∧ cs ≠ [] ∧ cs.length ≤ 256 ∧
  ∀ H' o (rs : Nat → Addr) (W : Nat → Nat → Int), Same H H' → H o = none → H' o = some (.lst (flV (fun i => .ref (rs i)) n)) → (∀ i, i < n → H' (rs i) = some (.lst (flV (fun j => .int (W i j)) n))) → (∀ i j, i < n → j < n → Gst cs i j (W i j)) → Q (.ref o) H'
theorem ok__law_widest (D : Dk K mg "_law_widest" s__law_widest) (fr : Fr mg) : Has P w K mg base CX0 1 "_law_widest" ["_law_cheapest_here", "_law_size"] (spWidest K) := by
  have sc := sc__law_widest
  refine D.has0 sc (fun vs H Q E h => ?_) (fun _ _ _ _ _ _ us hl => match us, hl with | [_, _], _ => rfl) (fun f cdv A outer s0 H vs Q E0 hr h => ?_)
  · obtain ⟨co, n, vs2, cs, rfl, _⟩ := h
    rfl
  · obtain ⟨co, n, vs2, cs, rfl, hn, hco, pw, cne, c256, q⟩ := h
    refine ⟨_, (pss_cons (ps_set (i := 2) sc.nd rfl (Or.inl rfl) (pe_lst pa_nil))
       (pss_cons (ps_for PassesOwn.never rfl (pi_range1 (by rfl) fr.range (pa_cons (pv 1) pa_nil)) (pg_name (i := 3) sc.nd rfl (Or.inr rfl))
        (pss_one (ps_expr (bmK (K := K) (pe_bm PySem.F.plainAttrs_list PySem.F.slot_list_append PySem.F.type_list_append mt_append (pv 2) (pa_cons (pe_lc (own := [("_law_other", 5)]) (g := gName 5) (tt := tYes) rfl sc.nd (pi_range1 (by rfl) fr.range (pa_cons (pv 1) pa_nil)) (blkOk_by (by kernel_rfl)) (fun _ _ _ _ _ => (pg_name (i := 5) sc.nd rfl (Or.inr rfl))) (fun _ _ _ _ _ => pts_nil) (fun _ _ _ _ _ => (pe_callB (id := "max") (c_max (K := K) rfl rfl) (by rfl) fr.max (by decide +kernel) (pa_cons (pe_lc (own := [("_law_levels", 4)]) (g := gName 4) (tt := tYes) rfl sc.nd (pi_listK (K := K) rfl (pv 0)) (blkOk_by (by kernel_rfl)) (fun _ _ _ _ _ => (pg_name (i := 4) sc.nd rfl (Or.inl rfl))) (fun _ _ _ _ _ => pts_nil) (fun _ _ _ _ _ => (pe_op op_sub (pe_ixL (K := K) rfl (pv 4) (pv 5) (fun _ _ => rfl)) (pe_ixL (K := K) rfl (pv 4) (pv 3) (fun _ _ => rfl))))) pa_nil)))) pa_nil)) rfl))))
       (pss_one (ps_ret (pv 2))))), ?_⟩
    have lenC : vs2.length = cs.length := Paired.length pw
    walk_at "sx"
    refine ⟨line_le (n := 0) (by decide), fun o no => ?_⟩
    walk_at "sx"
    refine q_forR rfl ⟨n, rfl, by omega, fun i σ H' => ∃ y3, ∃ rs : Nat → Addr, ∃ W : Nat → Nat → Int, σ = [some (.ref co), some (.int n), some (.ref o), y3, none, none] ∧ Same H H' ∧ H' o = some (.lst (flV (fun k => .ref (rs k)) i)) ∧ (∀ k, k < i → rs k ≠ o ∧ H' (rs k) = some (.lst (flV (fun j => .int (W k j)) n))) ∧ ∀ k j, k < i → j < n → Gst cs k j (W k j), ?_, ?_, ?_⟩
    · exact ⟨_, fun _ => 0, fun _ _ => 0, rfl, same_upd no, upd_same, fun k hk => absurd hk (Nat.not_lt_zero _), fun k j hk => absurd hk (Nat.not_lt_zero _)⟩
    · rintro i σ H' hi ⟨y3, rs, W, rfl, s1, ho, hr1, gs⟩
      walk_at "sx"
      refine q_appV rfl ho ?_
      walk_at "sx"
      refine q_lcR rfl ⟨n, rfl, by omega, fun row nrow => ⟨fun j H2 => ∃ wr : Nat → Int, Same H' H2 ∧ H2 row = some (.lst (flV (fun k => .int (wr k)) j)) ∧ ∀ k, k < j → Gst cs i k (wr k), ?_, ?_, ?_⟩⟩
      · exact ⟨fun _ => 0, same_upd nrow, upd_same, fun k hk => absurd hk (Nat.not_lt_zero _)⟩
      · rintro j H2 hj ⟨wr, s2, h2, g2⟩
        walk_at "sx"
        refine q_lcL rfl (.of (s2 _ _ (s1 _ _ hco))) fun l nl => ⟨fun c H3 => H3 = upd H2 l (.lst (((cs.take c).map fun L => L j - L i).map V.int)), rfl, ?_, ?_, ?_⟩
        · rintro c H3 hc rfl
          exact .of (same_upd nl _ _ (s2 _ _ (s1 _ _ hco)))
        · rintro c x H3 hx rfl
          obtain ⟨L, eL, p, rfl, pne, hp⟩ := paired_r pw hx
          have hp3 := same_upd (o := .lst (((cs.take c).map fun L => L j - L i).map V.int)) nl _ _ (s2 _ _ (s1 _ _ hp))
          refine q_gname ?_
          refine ⟨wipe1, ?_⟩
          walk_at "sx"
          refine q_ixLn hp3 (flV_get hj) ?_
          walk_at "sx"
          refine q_ixLn hp3 (flV_get hi) ?_
          walk_at "sx"
          refine ⟨_, upd_same, line_of (by rw [List.length_map, List.length_map, List.length_take]; omega), ?_⟩
          rw [upd_upd]
          show _ = upd H2 l (.lst (((cs.take (c + 1)).map fun L => L j - L i).map V.int))
          rw [take_snoc eL, List.map_append, List.map_append]
          rfl
        · rintro H3 rfl
          rw [lenC, List.take_length]
          have s3 := same_upd (o := .lst ((cs.map fun L => L j - L i).map V.int)) nl
          walk_at "sx"
          refine ⟨l, cs.map fun L => L j - L i, rfl, .of upd_same, ?_, fun mm hm1 hm2 => ?_⟩
          · rw [List.length_map]
            cases cs with
            | nil => exact absurd rfl cne
            | cons a t => exact Nat.succ_pos _
          obtain ⟨L0, hL0, e0⟩ := List.mem_map.mp hm1
          refine ⟨_, s3 _ _ h2, by rw [flV_len]; exact line_of (by omega), Kw.put wr j mm, (s2.trans s3).mut' nrow, ?_, fun k hk => ?_⟩
          · rw [upd_same, ← flV_snoc (fun k => V.int (Kw.put wr j mm k)) j, Kw.put_same]
            congr 3
            exact flV_congr fun k hk => by rw [Kw.put_ne (by omega)]
          · by_cases z : k = j
            · rw [z, Kw.put_same]
              exact ⟨fun L hL => hm2 _ (List.mem_map_of_mem (f := fun L => L j - L i) hL), L0, hL0, e0⟩
            · rw [Kw.put_ne z]
              exact g2 k (by omega)
      · rintro H2 ⟨wr, s2, h2, g2⟩
        walk_at "sx"
        refine q_rapp (s2 _ _ ho) (by rw [flV_len]; exact line_of (by omega)) ?_
        walk_at "sx"
        have rowo : row ≠ o := (ne_of_none ho nrow).symm
        refine ⟨_, Kw.put rs i row, Kw.put W i wr, rfl, (s1.trans s2).mut' no, ?_, fun k hk => ?_, fun k j hk hj => ?_⟩
        · rw [upd_same, ← flV_snoc (fun k => V.ref (Kw.put rs i row k)) i, Kw.put_same]
          congr 3
          exact flV_congr fun k hk => by rw [Kw.put_ne (by omega)]
        · by_cases z : k = i
          · rw [z, Kw.put_same, Kw.put_same]
            exact ⟨rowo, by rw [upd_ne rowo]; exact h2⟩
          · rw [Kw.put_ne z, Kw.put_ne z]
            obtain ⟨g1, g2'⟩ := hr1 k (by omega)
            exact ⟨g1, by rw [upd_ne g1]; exact s2 _ _ g2'⟩
        · by_cases z : k = i
          · rw [z, Kw.put_same]
            exact g2 j hj
          · rw [Kw.put_ne z]
            exact gs k j (by omega) hj
    · rintro σ H' ⟨y3, rs, W, rfl, s1, ho, hr1, gs⟩
      walk_at "sx"
      exact q H' o rs W s1 no ho (fun i hi => (hr1 i hi).2) gs
end
end Kt

namespace Kt
open PySem PySem.Spec PyProof.Rows L2
local macro_rules
  | `(tactic| walk_at "sx") => `(tactic| repeat (first
    | with_reducible refine q_seq ?_ | with_reducible refine q_par ?_ | with_reducible refine q_augS ?_ | with_reducible refine q_rev ?_ | with_reducible refine q_yes ?_ | with_reducible refine q_gname ?_ | with_reducible refine q_setG ?_ | with_reducible refine q_ip ?_ | with_reducible refine q_asg ?_ | with_reducible refine q_asgG ?_ | with_reducible refine q_ret ?_ | with_reducible refine q_drop ?_ | with_reducible refine q_if ?_ | with_reducible refine q_next ?_
    | with_reducible refine q_test ?_ | with_reducible refine q_tB ?_ | with_reducible refine q_chain ?_ | with_reducible refine q_andV ?_ | with_reducible refine q_bl ?_ | with_reducible refine q_exint ?_ | ((with_reducible show tAug _ _ _ _ _ _); refine q_aug rfl ?_) | with_reducible refine q_not ?_ | with_reducible refine q_and ?_ | with_reducible refine q_or ?_
    | with_reducible refine q_op ?_ | with_reducible refine q_un ?_ | with_reducible refine q_c ?_ | ((with_reducible show tVar _ _ _ _); refine q_var rfl ?_)
    | with_reducible refine q_i0 ?_ | with_reducible refine q_u ?_ | with_reducible refine q_eq ?_ | with_reducible refine q_ne ?_ | with_reducible refine q_isN ?_ | with_reducible refine q_notN ?_ | with_reducible refine q_min2 ?_ | with_reducible refine q_abs ?_ | with_reducible refine q_int ?_
    | with_reducible refine q_nil ?_ | with_reducible refine q_cons ?_ | with_reducible refine q_tup ?_ | with_reducible refine q_lst ?_ | with_reducible refine q_call ?_ | with_reducible refine q_makeN ?_ | with_reducible refine q_make ?_ | with_reducible refine q_cb ?_
    | ((with_reducible show ite _ _ _); first | refine ift rfl ?_ | refine iff' rfl ?_)))
-- slots: 0 _law_table_here 1 _law_worlds 2 _law_levels 3 _law_node 4 _law_level 5 _law_other 6 _law_world
abbrev s__law_outside : Stmt := topS 67
theorem sc__law_outside : FnScope ["_law_table_here", "_law_worlds", "_law_levels", "_law_node", "_law_level", "_law_other", "_law_world"] ["_law_table_here", "_law_worlds", "_law_levels", "_law_node"] (defScope s__law_outside) := ⟨rfl, rfl, rfl, by decide +kernel, rfl, by decide +kernel, by decide +kernel⟩
section
variable {P : Program} {w : World} {K : PySem.W.Frag} {mg : Str → Option Value} {base : Heap}
def spOutside (K : PySem.W.Frag) : Sp := fun vs H Q _ => ∃ (tb wo la : Addr) (rs : Nat → Addr) (T : Nat → Nat → Int) (n v : Nat) (vs1 : List V) (ws : List (Nat → Int)) (L : Nat → Int), vs = [.ref tb, .ref wo, .ref la, .int v] ∧ TabAt H tb rs (fun i j => some (T i j)) n ∧ n ≤ 16 ∧ v < n ∧ H wo = some (.lst vs1) ∧ Paired (wlP H wo n) vs1 ws ∧ ws.length ≤ 256 ∧
  H la = some (.lst (flV (fun i => .int (L i)) n)) ∧ L 0 = 0 ∧ (∃ x ∈ ws, T 0 v ≤ x v) ∧ ∀ H', Same H H' → Q (.bl true) H'
theorem ok__law_outside (D : Dk K mg "_law_outside" s__law_outside) (fr : Fr mg) (h_in_table : Has P w K mg base CX0 1 "in_table" ["table", "levels"] (spInTab K)) : Has P w K mg base CX0 2 "_law_outside" ["_law_table_here", "_law_worlds", "_law_levels", "_law_node"] (spOutside K) := by
  have sc := sc__law_outside
  refine D.has0 sc (fun vs H Q E h => ?_) (fun _ _ _ _ _ _ us hl => match us, hl with | [_, _, _, _], _ => rfl) (fun f cdv A outer s0 H vs Q E0 hr h => ?_)
  · obtain ⟨tb, wo, la, rs, T, n, v, vs1, ws, L, rfl, _⟩ := h
    rfl
  · obtain ⟨tb, wo, la, rs, T, n, v, vs1, ws, L, rfl, ht, hn, hv, hwo, pw, w256, hla, l0, ⟨x0, hx0, tx⟩, q⟩ := h
    refine ⟨_, (pss_cons (ps_if (pt_cmpR op_notBl (pe_has h_in_table (hr.mono (by decide)) pass0 (pa_cons (pv 0) (pa_cons (pe_lc (own := [("_law_level", 4)]) (g := gName 4) (tt := tYes) rfl sc.nd (pi_listK (K := K) rfl (pv 2)) (blkOk_by (by kernel_rfl)) (fun _ _ _ _ _ => (pg_name (i := 4) sc.nd rfl (Or.inl rfl))) (fun _ _ _ _ _ => pts_nil) (fun _ _ _ _ _ => (pe_op op_add (pv 4) pe_int))) pa_nil))) pe_bl (nomark _)) (pss_one (ps_ret pe_bl)) pss_nil)
       (pss_cons (ps_if (pt_cmpR op_eq (pv 3) pe_int (nomark _)) (pss_one (ps_ret pe_bl)) pss_nil)
       (pss_cons (ps_set (i := 5) sc.nd rfl (Or.inl rfl) (pe_callTy (T := "list") (c_list (K := K) rfl) (by rfl) fr.list (by decide +kernel) (pa_cons (pv 2) pa_nil)))
       (pss_cons (ps_asg (pe_op op_add pe_int (pe_callB (id := "max") (c_max (K := K) rfl rfl) (by rfl) fr.max (by decide +kernel) (pa_cons (pe_lc (own := [("_law_world", 6)]) (g := gName 6) (tt := tYes) rfl sc.nd (pi_listK (K := K) rfl (pv 1)) (blkOk_by (by kernel_rfl)) (fun _ _ _ _ _ => (pg_name (i := 6) sc.nd rfl (Or.inl rfl))) (fun _ _ _ _ _ => pts_nil) (fun _ _ _ _ _ => (pe_ixL (K := K) rfl (pv 6) (pv 3) (fun _ _ => rfl)))) pa_nil))) (pg_sub (pv 5) (pv 3) set_list))
       (pss_one (ps_ret (pe_cmpR op_isBl (pe_has h_in_table (hr.mono (by decide)) pass0 (pa_cons (pv 0) (pa_cons (pv 5) pa_nil))) pe_bl (nomark _)))))))), ?_⟩
    have lenW : vs1.length = ws.length := Paired.length pw
    walk_at "sx"
    refine q_lcL rfl (.of hla) fun p np => ⟨fun i H' => i ≤ n ∧ H' = upd H p (.lst (flV (fun k => .int (L k + 1)) i)), ⟨Nat.zero_le _, rfl⟩, ?_, ?_, ?_⟩
    · rintro i H' hi ⟨_, rfl⟩
      exact .of (same_upd np _ _ hla)
    · rintro i x H' hx ⟨_, rfl⟩
      have hi : i < n := by
        have := (List.getElem?_eq_some_iff.mp hx).1
        rw [flV_len] at this
        exact this
      rw [flV_get hi] at hx
      cases hx
      refine q_gname ?_
      refine ⟨wipe1, ?_⟩
      walk_at "sx"
      refine ⟨_, upd_same, by rw [flV_len]; exact line_of (by omega), hi, ?_⟩
      rw [upd_upd]
      congr 1
      rw [← flV_snoc (fun k => V.int (L k + 1)) i]
    rintro H1 ⟨_, rfl⟩
    rw [flV_len]
    have s1 := same_upd (o := .lst (flV (fun k => .int (L k + 1)) n)) np
    walk_at "sx"
    refine ⟨tb, p, rs, T, n, fun k => L k + 1, rfl, ht.same s1, by omega, by omega, .of upd_same, fun H2 b s2 hb => ?_⟩
    have bf : b = false := by
      cases b with
      | false => rfl
      | true =>
        have := (hb.mp rfl).1
        dsimp only at this
        omega
    subst bf
    refine ⟨false, false, rfl, rfl, ?_⟩
    walk_at "sx"
    have s12 := s1.trans s2
    refine ifd (fun e => ?_) (fun e => ?_)
    · walk_at "sx"
      exact q _ s12
    · walk_at "sx"
      refine ⟨la, _, rfl, .inl (.of (s12 _ _ hla)), fun ot no => ?_⟩
      have s3 := same_upd (o := .lst (flV (fun i => .int (L i)) n)) no
      have hot : (upd H2 ot (.lst (flV (fun i => .int (L i)) n))) ot = some (.lst (flV (fun i => .int (L i)) n)) := upd_same
      generalize upd H2 ot (.lst (flV (fun i => .int (L i)) n)) = H3 at s3 hot
      have s13 := s12.trans s3
      walk_at "sx"
      refine q_lcL rfl (.of (s13 _ _ hwo)) fun l nl => ⟨fun c H4 => H4 = upd H3 l (.lst (((ws.take c).map fun x => x v).map V.int)), rfl, ?_, ?_, ?_⟩
      · rintro c H4 hc rfl
        exact .of (same_upd nl _ _ (s13 _ _ hwo))
      · rintro c x H4 hx rfl
        obtain ⟨M, eM, pp, rfl, pne, hp⟩ := paired_r pw hx
        have hp3 := same_upd (o := .lst (((ws.take c).map fun x => x v).map V.int)) nl _ _ (s13 _ _ hp)
        refine q_gname ?_
        refine ⟨wipe1, ?_⟩
        walk_at "sx"
        refine q_ixLn hp3 (flV_get hv) ?_
        refine ⟨_, upd_same, line_of (by rw [List.length_map, List.length_map, List.length_take]; omega), ?_⟩
        rw [upd_upd]
        show _ = upd H3 l (.lst (((ws.take (c + 1)).map fun x => x v).map V.int))
        rw [take_snoc eM, List.map_append, List.map_append]
        rfl
      rintro H4 rfl
      rw [lenW, List.take_length]
      have s4 := same_upd (o := .lst ((ws.map fun x => x v).map V.int)) nl
      walk_at "sx"
      refine ⟨l, ws.map fun x => x v, rfl, .of upd_same, ?_, fun mm hm1 hm2 => ?_⟩
      · rw [List.length_map]
        exact List.length_pos_of_mem hx0
      have big : T 0 v ≤ mm := Int.le_trans tx (hm2 _ (List.mem_map_of_mem (f := fun x : Nat → Int => x v) hx0))
      walk_at "sx"
      refine q_set (s4 _ _ hot) (by rw [flV_len]; exact hv) ?_
      rw [flV_set]
      have e5 : flV (Kw.put (fun i => V.int (L i)) v (.int (1 + mm))) n = flV (fun i => .int (Kw.put L v (1 + mm) i)) n := flV_congr fun k _ => by
        by_cases z : k = v
        · rw [z, Kw.put_same, Kw.put_same]
        · rw [Kw.put_ne z, Kw.put_ne z]
      rw [e5]
      have s5 := ((s13.trans s4).mut' (o := .lst (flV (fun i => .int (Kw.put L v (1 + mm) i)) n)) (s12.free no))
      walk_at "sx"
      refine ⟨tb, ot, rs, T, n, Kw.put L v (1 + mm), rfl, ht.same s5, by omega, by omega, .of upd_same, fun H6 b s6 hb => ?_⟩
      have bf : b = false := by
        cases b with
        | false => rfl
        | true =>
          have z := (hb.mp rfl).2 0 v (by omega) hv
          rw [Kw.put_same, Kw.put_ne (show (0 : Nat) ≠ v by omega), l0] at z
          omega
      subst bf
      refine ⟨false, false, rfl, rfl, ?_⟩
      exact q _ (s5.trans s6)
end
end Kt

/-! Lists of ints, lists of these, as data. -/
namespace Kt
open PySem PySem.Spec PyProof.Rows L2
def intsD (l : List Int) : List PyData := l.map .int
def lstD (l : List Int) : PyData := .list (intsD l)
def rowD (k : Nat) (L : Nat → Int) : List Int := (List.range k).map L
theorem flV_ints (k : Nat) (L : Nat → Int) : flV (fun i => V.int (L i)) k = (rowD k L).map V.int := by
  unfold flV rowD
  rw [List.map_map]
  rfl
theorem dpa_ints {K : PySem.W.Frag} {H : Hp} : ∀ l : List Int, DpAll K H (l.map V.int) (intsD l)
  | [] => .nil
  | a :: l => .cons (.int a) (dpa_ints l)
theorem dp_row {K : PySem.W.Frag} {H : Hp} {p : Addr} {k : Nat} {L : Nat → Int} (h : H p = some (.lst (flV (fun i => .int (L i)) k))) : Dp K H (.ref p) (lstD (rowD k L)) := by
  rw [flV_ints] at h
  exact .lst (.of h) (dpa_ints _)
theorem eqvAll_ints : ∀ l m : List Int, PyData.eqvAll (intsD l) (intsD m) = decide (l = m)
  | [], [] => by simp [intsD, PyData.eqvAll]
  | [], b :: m => by simp [intsD, PyData.eqvAll]
  | a :: l, [] => by simp [intsD, PyData.eqvAll]
  | a :: l, b :: m => by
    show PyData.eqvAll (PyData.int a :: intsD l) (PyData.int b :: intsD m) = _
    rw [PyData.eqvAll, PyData.eqv, eqvAll_ints l m]
    by_cases h : a = b <;> by_cases g : l = m <;> simp [h, g]
theorem eqv_lst (l m : List Int) : PyData.eqv (lstD l) (lstD m) = decide (l = m) := by
  show PyData.eqv (.list (intsD l)) (.list (intsD m)) = _
  rw [PyData.eqv]
  exact eqvAll_ints l m
theorem lay_ints : ∀ l : List Int, PyData.canLayAll0 (intsD l) = true
  | [] => by simp [intsD, PyData.canLayAll0]
  | a :: l => by
    show PyData.canLayAll0 (PyData.int a :: intsD l) = true
    rw [PyData.canLayAll0, PyData.canLay0, lay_ints l]
    rfl
theorem depth_ints : ∀ l : List Int, PyData.depthAll (intsD l) ≤ 1
  | [] => by simp [intsD, PyData.depthAll]
  | a :: l => by
    have := depth_ints l
    simp only [intsD, List.map_cons, PyData.depthAll, PyData.depth] at this ⊢
    omega
theorem shaped_lst (l : List Int) : SeqAt.shaped (lstD l) = true := by
  have h1 : PyData.canLay0 (lstD l) = true := by
    show PyData.canLay0 (.list (intsD l)) = true
    rw [PyData.canLay0]
    exact lay_ints l
  have h2 : (lstD l).depth ≤ 64 := by
    have := depth_ints l
    show PyData.depth (.list (intsD l)) ≤ 64
    simp only [PyData.depth]
    omega
  unfold SeqAt.shaped
  rw [h1, decide_eq_true h2]
  rfl
/-- lists of lists -/
def lstsD (ls : List (List Int)) : PyData := .list (ls.map lstD)
theorem shaped_lsts (ls : List (List Int)) : SeqAt.shaped (lstsD ls) = true := by
  have h1 : ∀ ls : List (List Int), PyData.canLayAll0 (ls.map lstD) = true := by
    intro ls
    induction ls with
    | nil => simp [PyData.canLayAll0]
    | cons a t ih =>
      rw [List.map_cons, PyData.canLayAll0, ih, show PyData.canLay0 (lstD a) = true from SeqAt.canLay_of_shaped (shaped_lst a)]
      rfl
  have h2 : ∀ ls : List (List Int), PyData.depthAll (ls.map lstD) ≤ 3 := by
    intro ls
    induction ls with
    | nil => simp [PyData.depthAll]
    | cons a t ih =>
      have := depth_ints a
      simp only [List.map_cons, lstD, PyData.depthAll, PyData.depth] at ih ⊢
      omega
  have h3 : PyData.canLay0 (lstsD ls) = true := by
    show PyData.canLay0 (.list (ls.map lstD)) = true
    rw [PyData.canLay0]
    exact h1 ls
  have h4 : (lstsD ls).depth ≤ 64 := by
    have := h2 ls
    show PyData.depth (.list (ls.map lstD)) ≤ 64
    simp only [PyData.depth]
    omega
  unfold SeqAt.shaped
  rw [h3, decide_eq_true h4]
  rfl
theorem eqv_lsts : ∀ l m : List (List Int), PyData.eqv (lstsD l) (lstsD m) = decide (l = m) := by
  have all : ∀ l m : List (List Int), PyData.eqvAll (l.map lstD) (m.map lstD) = decide (l = m) := by
    intro l
    induction l with
    | nil =>
      intro m
      cases m <;> simp [PyData.eqvAll]
    | cons a t ih =>
      intro m
      cases m with
      | nil => simp [PyData.eqvAll]
      | cons b s =>
        rw [List.map_cons, List.map_cons, PyData.eqvAll, eqv_lst, ih s]
        by_cases h : a = b <;> by_cases g : t = s <;> simp [h, g]
  intro l m
  show PyData.eqv (.list (l.map lstD)) (.list (m.map lstD)) = _
  rw [PyData.eqv]
  exact all l m
theorem any_lst (ls : List (List Int)) (l : List Int) : ((ls.map lstD).any fun z => PyData.eqv z (lstD l)) = decide (l ∈ ls) := by
  induction ls with
  | nil => simp
  | cons a t ih =>
    rw [List.map_cons, List.any_cons, ih, eqv_lst]
    by_cases h : a = l
    · subst h
      simp
    · have h' : ¬ l = a := fun z => h z.symm
      simp [h, h']
/-- a table of rows -/
theorem dp_tab {K : PySem.W.Frag} {H : Hp} {o : Addr} {rs : Nat → Addr} {W : Nat → Nat → Int} {n : Nat} (h : H o = some (.lst (flV (fun i => .ref (rs i)) n))) (g : ∀ i, i < n → H (rs i) = some (.lst (flV (fun j => .int (W i j)) n))) : Dp K H (.ref o) (lstsD ((List.range n).map fun i => rowD n (W i))) := by
  refine .lst (.of h) ?_
  have : ∀ l : List Nat, (∀ i ∈ l, i < n) → DpAll K H (l.map fun i => V.ref (rs i)) ((l.map fun i => rowD n (W i)).map lstD) := by
    intro l
    induction l with
    | nil => exact fun _ => .nil
    | cons a t ih => exact fun z => .cons (dp_row (g a (z a List.mem_cons_self))) (ih fun i hi => z i (List.mem_cons_of_mem _ hi))
  exact this _ fun i hi => List.mem_range.mp hi
end Kt

namespace Kt
open PySem PySem.Spec PyProof.Rows L2
local macro_rules
  | `(tactic| walk_at "sx") => `(tactic| repeat (first
    | with_reducible refine q_seq ?_ | with_reducible refine q_par ?_ | with_reducible refine q_augS ?_ | with_reducible refine q_rev ?_ | with_reducible refine q_yes ?_ | with_reducible refine q_gname ?_ | with_reducible refine q_setG ?_ | with_reducible refine q_ip ?_ | with_reducible refine q_asg ?_ | with_reducible refine q_asgG ?_ | with_reducible refine q_ret ?_ | with_reducible refine q_drop ?_ | with_reducible refine q_if ?_ | with_reducible refine q_next ?_
    | with_reducible refine q_test ?_ | with_reducible refine q_tB ?_ | with_reducible refine q_chain ?_ | with_reducible refine q_andV ?_ | with_reducible refine q_bl ?_ | with_reducible refine q_exint ?_ | ((with_reducible show tAug _ _ _ _ _ _); refine q_aug rfl ?_) | with_reducible refine q_not ?_ | with_reducible refine q_and ?_ | with_reducible refine q_or ?_
    | with_reducible refine q_op ?_ | with_reducible refine q_un ?_ | with_reducible refine q_c ?_ | ((with_reducible show tVar _ _ _ _); refine q_var rfl ?_)
    | with_reducible refine q_i0 ?_ | with_reducible refine q_u ?_ | with_reducible refine q_eq ?_ | with_reducible refine q_ne ?_ | with_reducible refine q_isN ?_ | with_reducible refine q_notN ?_ | with_reducible refine q_min2 ?_ | with_reducible refine q_abs ?_ | with_reducible refine q_int ?_
    | with_reducible refine q_nil ?_ | with_reducible refine q_cons ?_ | with_reducible refine q_tup ?_ | with_reducible refine q_lst ?_ | with_reducible refine q_call ?_ | with_reducible refine q_makeN ?_ | with_reducible refine q_make ?_ | with_reducible refine q_cb ?_
    | ((with_reducible show ite _ _ _); first | refine ift rfl ?_ | refine iff' rfl ?_)))
-- slots: 0 _law_table_here 1 _law_worlds 2 _law_cheapest_here 3 _law_size 4 _law_due 5 _law_levels 6 _law_inside
abbrev s__law_right : Stmt := topS 66
theorem sc__law_right : FnScope ["_law_table_here", "_law_worlds", "_law_cheapest_here", "_law_size", "_law_due", "_law_levels", "_law_inside"] ["_law_table_here", "_law_worlds", "_law_cheapest_here", "_law_size"] (defScope s__law_right) := ⟨rfl, rfl, rfl, by decide +kernel, rfl, by decide +kernel, by decide +kernel⟩
section
variable {P : Program} {w : World} {K : PySem.W.Frag} {mg : Str → Option Value} {base : Heap}
def spRight (K : PySem.W.Frag) : Sp := fun vs H Q _ => ∃ (tb wo co : Addr) (rs : Nat → Addr) (T : Nat → Nat → Int) (n : Nat) (vs1 vs2 : List V) (ws cs : List (Nat → Int)), vs = [.ref tb, .ref wo, .ref co, .int n] ∧ TabAt H tb rs (fun i j => some (T i j)) n ∧ 1 ≤ n ∧ n ≤ 16 ∧ H wo = some (.lst vs1) ∧ Paired (wlP H wo n) vs1 ws ∧ ws.length ≤ 256 ∧
  H co = some (.lst vs2) ∧ Paired (wlP H co n) vs2 cs ∧ cs ≠ [] ∧ cs.length ≤ 256 ∧ (∀ i j, i < n → j < n → Gst cs i j (T i j)) ∧
  (∀ L ∈ ws, (∃ M ∈ cs, ∀ i, i < n → M i = L i) ↔ (L 0 = 0 ∧ ∀ i j, i < n → j < n → L j - L i ≤ T i j)) ∧ ∀ H', Same H H' → Q (.bl true) H'
theorem Gst.inj {cs : List (Nat → Int)} {i j : Nat} {a b : Int} (h : Gst cs i j a) (g : Gst cs i j b) : a = b := by
  obtain ⟨h1, L, hL, e1⟩ := h
  obtain ⟨g1, M, hM, e2⟩ := g
  have := h1 M hM
  have := g1 L hL
  omega
theorem dp_wl {H : Hp} {o : Addr} {n : Nat} : ∀ {vs : List V} {ws : List (Nat → Int)}, Paired (wlP H o n) vs ws → DpAll K H vs ((ws.map (rowD n)).map lstD)
  | _, _, .nil => .nil
  | _, _, .cons ⟨p, e, _, h⟩ t => by
    subst e
    exact .cons (dp_row h) (dp_wl t)
theorem rowD_eq {n : Nat} {L M : Nat → Int} : rowD n L = rowD n M ↔ ∀ i, i < n → L i = M i := by
  constructor
  · intro h i hi
    have : (rowD n L)[i]? = (rowD n M)[i]? := by rw [h]
    unfold rowD at this
    rw [List.getElem?_map, List.getElem?_map, List.getElem?_range hi] at this
    exact Option.some.inj this
  · intro h
    unfold rowD
    exact List.map_congr_left fun i hi => h i (List.mem_range.mp hi)
theorem ok__law_right (D : Dk K mg "_law_right" s__law_right) (fr : Fr mg) (h_in_table : Has P w K mg base CX0 1 "in_table" ["table", "levels"] (spInTab K)) (h__law_widest : Has P w K mg base CX0 1 "_law_widest" ["_law_cheapest_here", "_law_size"] (spWidest K)) (h__law_lists : Has P w K mg base CX0 3 "_law_lists" ["_law_actual"] spLists) :
    Has P w K mg base CX0 4 "_law_right" ["_law_table_here", "_law_worlds", "_law_cheapest_here", "_law_size"] (spRight K) := by
  have sc := sc__law_right
  refine D.has0 sc (fun vs H Q E h => ?_) (fun _ _ _ _ _ _ us hl => match us, hl with | [_, _, _, _], _ => rfl) (fun f cdv A outer s0 H vs Q E0 hr h => ?_)
  · obtain ⟨tb, wo, co, rs, T, n, vs1, vs2, ws, cs, rfl, _⟩ := h
    rfl
  · obtain ⟨tb, wo, co, rs, T, n, vs1, vs2, ws, cs, rfl, ht, n1, n16, hwo, pw, w256, hco, pc, cne, c256, gst, ins, q⟩ := h
    have hu : (A.deeper (envOfC "_law_right" (defScope s__law_right) s0.heap.objs.size f cdv)).units + 65 < cLine := by have := hr.un; omega
    have hu4 : (A.deeper (envOfC "_law_right" (defScope s__law_right) s0.heap.objs.size f cdv)).units + 64 < cLine := by have := hr.un; omega
    refine ⟨_, (pss_cons (ps_set (i := 4) sc.nd rfl (Or.inl rfl) (pe_has h__law_widest (hr.mono (by decide)) pass0 (pa_cons (pv 2) (pa_cons (pv 3) pa_nil))))
       (pss_cons (ps_if (PW.pt (pw_or (pt_not (pt_val (pe_has h__law_lists (hr.mono (by decide)) pass0 (pa_cons (pv 0) pa_nil)))) (pw_or1 (pt_cmpR (op_neD hu4) (pv 0) (pv 4) (nomark _))))) (pss_one (ps_ret pe_bl)) pss_nil)
       (pss_cons (ps_for PassesOwn.never rfl (pi_listK (K := K) rfl (pv 1)) (pg_name (i := 5) sc.nd rfl (Or.inl rfl))
        (pss_cons (ps_set (i := 6) sc.nd rfl (Or.inl rfl) (pe_has h_in_table (hr.mono (by decide)) pass0 (pa_cons (pv 0) (pa_cons (pe_callTy (T := "list") (c_list (K := K) rfl) (by rfl) fr.list (by decide +kernel) (pa_cons (pv 5) pa_nil)) pa_nil))))
       (pss_cons (ps_if (PW.pt (pw_and (pt_cmpR (op_inD hu) (pv 5) (pv 2) (by rfl)) (pw_and1 (pt_cmpR op_notBl (pv 6) pe_bl (nomark _))))) (pss_one (ps_ret pe_bl)) pss_nil)
       (pss_one (ps_if (PW.pt (pw_and (pt_cmpR (op_notInD hu) (pv 5) (pv 2) (by rfl)) (pw_and1 (pt_cmpR op_notBl (pv 6) pe_bl (nomark _))))) (pss_one (ps_ret pe_bl)) pss_nil)))))
       (pss_one (ps_ret (pe_cmpR (op_eqD hu4) (pv 0) (pv 4) (nomark _))))))), ?_⟩
    walk_at "sx"
    refine ⟨co, n, vs2, cs, rfl, n16, hco, pc, cne, c256, fun H1 du rs2 W s1 ndu hdu hrw gw => ?_⟩
    have eW : ∀ i j, i < n → j < n → T i j = W i j := fun i j hi hj => (gst i j hi hj).inj (gw i j hi hj)
    have ht1 := ht.same s1
    have dT : ∀ {H'}, Same H1 H' → Dp K H' (.ref tb) (lstsD ((List.range n).map fun i => rowD n (T i))) := fun e => dp_tab (e _ _ ht1.top) fun i hi => e _ _ (ht1.row i hi)
    have dW : ∀ {H'}, Same H1 H' → Dp K H' (.ref du) (lstsD ((List.range n).map fun i => rowD n (W i))) := fun e => dp_tab (e _ _ hdu) fun i hi => e _ _ (hrw i hi)
    have eTW : ((List.range n).map fun i => rowD n (T i)) = (List.range n).map fun i => rowD n (W i) := List.map_congr_left fun i hi => rowD_eq.mpr fun j hj => eW i j (List.mem_range.mp hi) hj
    walk_at "sx"
    refine ⟨tb, rs, T, n, rfl, ht1, ?_⟩
    walk_at "sx"
    refine ⟨_, _, dT (fun _ _ e => e), dW (fun _ _ e => e), shaped_lsts _, shaped_lsts _, ?_⟩
    rw [eqv_lsts, decide_eq_true eTW]
    walk_at "sx"
    refine q_forL rfl ⟨wo, vs1, rfl, .of (s1 _ _ hwo), fun i σ H' => (∃ y5 y6, σ = [some (.ref tb), some (.ref wo), some (.ref co), some (.int n), some (.ref du), y5, y6]) ∧ Same H1 H', ⟨⟨_, _, rfl⟩, fun _ _ e => e⟩, ?_, ?_, ?_⟩
    · rintro i σ H' hi ⟨_, s2⟩
      exact .of (s2 _ _ (s1 _ _ hwo))
    · rintro i x σ H' hx ⟨⟨y5, y6, rfl⟩, s2⟩
      obtain ⟨L, eL, p, rfl, pne, hp⟩ := paired_r pw hx
      have hp2 := s2 _ _ (s1 _ _ hp)
      have iL := ins L (List.mem_of_getElem? eL)
      refine q_gname ?_
      walk_at "sx"
      refine ⟨p, _, rfl, .inl (.of hp2), fun l nl => ?_⟩
      have s3 := same_upd (o := .lst (flV (fun i => .int (L i)) n)) nl
      walk_at "sx"
      refine ⟨tb, l, rs, T, n, L, rfl, ht1.same (s2.trans s3), by omega, by omega, .of upd_same, fun H4 b s4 hb => ?_⟩
      have s14 := (s2.trans s3).trans s4
      have hp4 := s14 _ _ (s1 _ _ hp)
      have dc : Dp K H4 (.ref co) (.list ((cs.map (rowD n)).map lstD)) := .lst (.of (s14 _ _ (s1 _ _ hco))) (dp_wl (Paired.mapP pc fun v M z => z.same (s1.trans s14)))
      have mem : (rowD n L ∈ cs.map (rowD n)) ↔ b = true := by
        rw [hb, ← iL, List.mem_map]
        constructor
        · rintro ⟨M, hM, e⟩
          exact ⟨M, hM, fun i hi => rowD_eq.mp e i hi⟩
        · rintro ⟨M, hM, e⟩
          exact ⟨M, hM, rowD_eq.mpr e⟩
      walk_at "sx"
      refine ⟨_, _, dp_row hp4, dc, shaped_lst _, shaped_lsts _, ?_⟩
      rw [any_lst]
      cases b with
      | true =>
        rw [decide_eq_true (mem.mpr rfl)]
        walk_at "sx"
        refine ⟨true, true, rfl, rfl, ?_⟩
        walk_at "sx"
        refine ⟨_, _, dp_row hp4, dc, shaped_lst _, shaped_lsts _, ?_⟩
        rw [any_lst, decide_eq_true (mem.mpr rfl)]
        walk_at "sx"
        exact ⟨⟨_, _, rfl⟩, s14⟩
      | false =>
        have nm : ¬ rowD n L ∈ cs.map (rowD n) := fun z => by
          have := mem.mp z
          cases this
        rw [decide_eq_false nm]
        walk_at "sx"
        refine ⟨_, _, dp_row hp4, dc, shaped_lst _, shaped_lsts _, ?_⟩
        rw [any_lst, decide_eq_false nm]
        walk_at "sx"
        refine ⟨false, false, rfl, rfl, ?_⟩
        walk_at "sx"
        exact ⟨⟨_, _, rfl⟩, s14⟩
    · rintro σ H' ⟨⟨y5, y6, rfl⟩, s2⟩
      walk_at "sx"
      refine ⟨_, _, dT s2, dW s2, shaped_lsts _, shaped_lsts _, ?_⟩
      rw [eqv_lsts, decide_eq_true eTW]
      exact q _ (s1.trans s2)
end
end Kt

/-! What the program computes and what the law asks, joined. -/
namespace Kt
open PySem L2
theorem sm_cat {R T : Nat → Kw.Row} {h : Nat} {f : Kw.Row → Int} (z : ∀ i, i < h → f (R i) = 0) : ∀ m, Kw.sm (h + m) (fun i => f (cat R h T i)) = Kw.sm m fun i => f (T i)
  | 0 => by
    have : ∀ k, k ≤ h → Kw.sm k (fun i => f (cat R h T i)) = 0 := by
      intro k
      induction k with
      | zero => exact fun _ => rfl
      | succ k ih =>
        intro hk
        show Kw.sm k _ + f (cat R h T k) = 0
        rw [ih (by omega), cat_l (by omega), z k (by omega)]
        rfl
    exact this h (Nat.le_refl _)
  | m + 1 => by
    show Kw.sm (h + m) _ + f (cat R h T (h + m)) = Kw.sm m _ + f (T m)
    rw [sm_cat z m, cat_r]
theorem gr_gro {n h m : Nat} {R T : Nat → Kw.Row} {B : Nat → Int} {E : Nat → Nat} (s : RSet n h R B E) (y : Nat → Int) : Kw.Gr (h + m) (cat R h T) y = gro T m y := by
  refine sm_cat (f := fun r => Kw.cost r (Kw.dif y r)) (fun i hi => ?_) m
  unfold Kw.cost
  rw [(s.rl i hi).rm]
theorem world_kps {n h m : Nat} {R T : Nat → Kw.Row} {B : Nat → Int} {E : Nat → Nat} (s : RSet n h R B E) (tel : ∀ i, i < m → Tel n (T i)) {y : Nat → Int} : Kw.World (h + m) (cat R h T) y ↔ Kps R h y n := by
  constructor
  · intro wd i hi _ _ a b ea eb
    have k := wd i (by omega)
    rw [cat_l hi] at k
    exact ⟨k.lo a (s.rl i hi).rm ea, k.hi b (s.rl i hi).rm eb⟩
  · intro kp i hi
    by_cases z : i < h
    · rw [cat_l z]
      obtain ⟨a, b, ea, eb, _⟩ := (s.rl i z).bnd
      obtain ⟨k1, k2⟩ := kp i z (s.rl i z).f (s.rl i z).s a b ea eb
      exact ⟨(fun c _ e => by rw [ea] at e; cases e; exact k1), (fun c _ e => by rw [eb] at e; cases e; exact k2)⟩
    · have e : cat R h T i = T (i - h) := if_neg z
      rw [e]
      obtain ⟨wt, ew, _⟩ := (tel (i - h) (by omega)).rm
      exact ⟨(fun c e _ => by rw [ew] at e; cases e), (fun c e _ => by rw [ew] at e; cases e)⟩
theorem gro_congr {n m : Nat} {T : Nat → Kw.Row} (tel : ∀ i, i < m → Tel n (T i)) {L M : Nat → Int} (e : ∀ i, i < n → L i = M i) : gro T m L = gro T m M := Kw.sm_congr fun i hi => by
  have t := tel i hi
  unfold Kw.dif
  rw [e _ t.f, e _ t.s]
/-- what the table says of the worlds of least growth -/
theorem join {n h m : Nat} {R T : Nat → Kw.Row} {B : Nat → Int} {E : Nat → Nat} {F : Nat → Int} {ws cs : List (Nat → Int)} {g : Int} (s : RSet n h R B E) (n1 : 1 ≤ n) (tel : ∀ i, i < m → Tel n (T i)) (bs : Kw.Base n h (h + m) (cat R h T)) (dn : Kw.Done (h + m) (cat R h T) F)
    (sound : ∀ L ∈ ws, Wl R h n L) (full : ∀ x : Nat → Int, x 0 = 0 → Kps R h x n → ∃ L ∈ ws, ∀ i, i < n → L i = x i) (gle : ∀ L ∈ ws, g ≤ gro T m L) (mem : ∀ L, L ∈ cs ↔ L ∈ ws ∧ gro T m L = g) (cne : cs ≠ []) :
    ∃ W : Nat → Nat → Int, (∀ i j, i < n → j < n → Kw.clo n (Kw.lArcs (cat R h T) F (h + m)) i j = some (W i j)) ∧ (∀ i j, i < n → j < n → Gst cs i j (W i j)) ∧
      (∀ L ∈ ws, (∃ M ∈ cs, ∀ i, i < n → M i = L i) ↔ (L 0 = 0 ∧ ∀ i j, i < n → j < n → L j - L i ≤ W i j)) ∧ ∀ v, v < n → ∃ x ∈ ws, W 0 v ≤ x v := by
  obtain ⟨m0, lo, iff0⟩ := Kw.least bs.rok dn
  have iff1 : ∀ y, Kw.Pot (Kw.lArcs (cat R h T) F (h + m)) y ↔ Kps R h y n ∧ gro T m y = m0 := fun y => by
    rw [iff0 y, world_kps s tel, gr_gro s]
  have lo1 : ∀ y, Kps R h y n → m0 ≤ gro T m y := fun y k => by
    have := lo y ((world_kps s tel).mpr k)
    rw [gr_gro s] at this
    exact this
  -- each potential, moved to 0 at node 0, is one of the worlds
  have pull : ∀ y, Kw.Pot (Kw.lArcs (cat R h T) F (h + m)) y → ∃ L ∈ ws, gro T m L = m0 ∧ ∀ i j, i < n → j < n → L j - L i = y j - y i := fun y py => by
    have p2 := py.shift (-(y 0))
    obtain ⟨k, e⟩ := (iff1 _).mp p2
    obtain ⟨L, hL, eL⟩ := full (fun i => y i + -(y 0)) (by show y 0 + -(y 0) = 0; omega) k
    refine ⟨L, hL, (gro_congr tel eL).trans e, fun i j hi hj => ?_⟩
    rw [eL i hi, eL j hj]
    omega
  have eg : g = m0 := by
    obtain ⟨π, pπ⟩ := dn.pot
    obtain ⟨L, hL, e, _⟩ := pull π pπ
    have h1 := gle L hL
    obtain ⟨M, hM⟩ := List.exists_mem_of_ne_nil cs cne
    obtain ⟨h2, h3⟩ := (mem M).mp hM
    have h4 := lo1 M (sound M h2).kp
    omega
  obtain ⟨π, pπ⟩ := dn.pot
  have cl := Kw.clo_ok (n := n) pπ
  have lt := Kw.lArcs_lt (F := F) bs (Nat.le_refl (h + m))
  have known : ∀ i j, i < n → j < n → ∃ c, Kw.clo n (Kw.lArcs (cat R h T) F (h + m)) i j = some c := fun i j hi hj => by
    obtain ⟨c, wk⟩ := Kw.reach_all (F := F) bs (Nat.le_add_right h m) hi hj
    obtain ⟨b, e, _⟩ := cl.known lt wk
    exact ⟨b, e⟩
  have wk : ∀ i j, i < n → j < n → Kw.clo n (Kw.lArcs (cat R h T) F (h + m)) i j = some ((Kw.clo n (Kw.lArcs (cat R h T) F (h + m)) i j).getD 0) := fun i j hi hj => by
    obtain ⟨c, e⟩ := known i j hi hj
    rw [e]
    rfl
  have gst : ∀ i j, i < n → j < n → Gst cs i j ((Kw.clo n (Kw.lArcs (cat R h T) F (h + m)) i j).getD 0) := fun i j hi hj => by
    refine ⟨fun L hL => ?_, ?_⟩
    · obtain ⟨h1, h2⟩ := (mem L).mp hL
      exact cl.pot ((iff1 L).mpr ⟨(sound L h1).kp, by rw [h2, eg]⟩) (wk i j hi hj)
    · obtain ⟨L, hL, e, d⟩ := pull _ (cl.rowPot lt (i := i) fun j hj => Kw.reach_all bs (Nat.le_add_right h m) hi hj)
      refine ⟨L, (mem L).mpr ⟨hL, by rw [e, eg]⟩, ?_⟩
      rw [d i j hi hj]
      unfold Kw.rowPot
      rw [cl.diag i]
      show _ - (0 : Int) = _
      omega
  refine ⟨fun i j => (Kw.clo n (Kw.lArcs (cat R h T) F (h + m)) i j).getD 0, wk, gst, fun L hL => ?_, fun v hv => ?_⟩
  · constructor
    · rintro ⟨M, hM, e⟩
      refine ⟨(sound L hL).z, fun i j hi hj => ?_⟩
      rw [← e i hi, ← e j hj]
      exact (gst i j hi hj).1 M hM
    · rintro ⟨_, z⟩
      have pL : Kw.Pot (Kw.lArcs (cat R h T) F (h + m)) L := fun a ha => by
        obtain ⟨l1, l2⟩ := lt a ha
        obtain ⟨c, e, le⟩ := cl.known lt (Kw.Walk.one ha)
        have := z a.s a.e l1 l2
        dsimp only at this
        rw [e] at this
        have e2 : (some c).getD 0 = c := rfl
        omega
      exact ⟨L, (mem L).mpr ⟨hL, by rw [((iff1 L).mp pL).2, eg]⟩, fun _ _ => rfl⟩
  · obtain ⟨_, L, hL, e⟩ := gst 0 v (by omega) hv
    obtain ⟨h1, _⟩ := (mem L).mp hL
    refine ⟨L, h1, ?_⟩
    have := (sound L h1).z
    dsimp only
    omega
end Kt

namespace Kt
open PySem PySem.Spec PyProof.Rows L2
/-! Tells as data; claims in part. -/
section
variable {K : PySem.W.Frag} {H H' : Hp}
def tellD (r : Kw.Row) : PyData := .tuple [.int r.f, .int r.s, oD r.lo, oD r.hi, oD r.rm]
def tellsD (m : Nat) (T : Nat → Kw.Row) : PyData := .list ((List.range m).map fun i => tellD (T i))
theorem dp_tell {p : Addr} {r : Kw.Row} (h : SqT K H p (row5 r)) : Dp K H (.ref p) (tellD r) := .tup h (.cons (.int _) (.cons (.int _) (.cons (dp_o _) (.cons (dp_o _) (.cons (dp_o _) .nil)))))
theorem dpa_of : ∀ {vs : List V} {ds : List PyData}, vs.length = ds.length → (∀ (i : Nat) v d, vs[i]? = some v → ds[i]? = some d → Dp K H v d) → DpAll K H vs ds
  | [], [], _, _ => .nil
  | [], _ :: _, e, _ => by cases e
  | _ :: _, [], e, _ => by cases e
  | v :: vs, d :: ds, e, g => .cons (g 0 v d rfl rfl) (dpa_of (Nat.succ.inj e) fun i x y hx hy => g (i + 1) x y hx hy)
theorem dp_tells {a : Addr} {xs : List V} {m : Nat} {T : Nat → Kw.Row} (h : SqL K H a xs) (t : Tups K H row5 T m xs) : Dp K H (.ref a) (tellsD m T) := by
  refine .lst h (dpa_of ?_ fun i v d hv hd => ?_)
  · rw [t.1, List.length_map, List.length_range]
  · obtain ⟨hi, p, rfl, hp⟩ := t.get hv
    rw [List.getElem?_map, List.getElem?_range hi] at hd
    cases hd
    exact dp_tell hp
theorem lay_o (o : Option Int) : PyData.canLay0 (oD o) = true := by
  cases o <;> simp [oD, PyData.canLay0]
theorem depth_o (o : Option Int) : PyData.depth (oD o) ≤ 1 := by
  cases o <;> simp [oD, PyData.depth]
theorem lay_tell (r : Kw.Row) : PyData.canLay0 (tellD r) = true := by
  simp [tellD, PyData.canLay0, PyData.canLayAll0, lay_o]
theorem depth_tell (r : Kw.Row) : PyData.depth (tellD r) ≤ 6 := by
  have h1 := depth_o r.lo
  have h2 := depth_o r.hi
  have h3 := depth_o r.rm
  simp only [tellD, PyData.depth, PyData.depthAll]
  omega
theorem shaped_tells (m : Nat) (T : Nat → Kw.Row) : SeqAt.shaped (tellsD m T) = true := by
  have h1 : ∀ l : List Nat, PyData.canLayAll0 (l.map fun i => tellD (T i)) = true := by
    intro l
    induction l with
    | nil => simp [PyData.canLayAll0]
    | cons a t ih =>
      rw [List.map_cons, PyData.canLayAll0, ih, lay_tell]
      rfl
  have h2 : ∀ l : List Nat, PyData.depthAll (l.map fun i => tellD (T i)) ≤ 7 := by
    intro l
    induction l with
    | nil => simp [PyData.depthAll]
    | cons a t ih =>
      have := depth_tell (T a)
      simp only [List.map_cons, PyData.depthAll] at ih ⊢
      omega
  have h3 : PyData.canLay0 (tellsD m T) = true := by
    show PyData.canLay0 (.list ((List.range m).map fun i => tellD (T i))) = true
    rw [PyData.canLay0]
    exact h1 _
  have h4 : (tellsD m T).depth ≤ 64 := by
    have := h2 (List.range m)
    show PyData.depth (.list ((List.range m).map fun i => tellD (T i))) ≤ 64
    simp only [PyData.depth]
    omega
  unfold SeqAt.shaped
  rw [h3, decide_eq_true h4]
  rfl
theorem eqv_tells (m : Nat) (T : Nat → Kw.Row) : PyData.eqv (tellsD m T) (tellsD m T) = true := SeqAt.eqv_refl _ (SeqAt.canLay_of_shaped (shaped_tells m T))
/-! ### from the second on -/
theorem cut_1 (xs : List V) : cutV xs (some 1) none = xs.drop 1 := by
  cases xs with
  | nil => rfl
  | cons a l => exact cut_from (i := 1) (by simp)
theorem q_sl1 {a : Addr} {xs : List V} {Q : VK} (h : SqL K H a xs) (q : ∀ p, H p = none → Q (.ref p) (upd H p (.lst (xs.drop 1)))) : rSlL K (.ref a) (some 1) none H Q := ⟨a, xs, rfl, h, by rw [cut_1]; exact q⟩
theorem Tups.drop1 {f : Kw.Row → List V} {R : Nat → Kw.Row} {n : Nat} {xs : List V} (h : Tups K H f R n xs) : Tups K H f (fun i => R (1 + i)) (n - 1) (xs.drop 1) := by
  refine ⟨by rw [List.length_drop, h.1], fun i hi => ?_⟩
  obtain ⟨p, e, t⟩ := h.2 (1 + i) (by omega)
  exact ⟨p, by rw [List.getElem?_drop]; exact e, t⟩
theorem Clms.drop1 {R : Nat → Kw.Row} {n : Nat} {xs : List V} (h : Clms K H R n xs) : Clms K H (fun i => R (1 + i)) (n - 1) (xs.drop 1) := by
  refine ⟨by rw [List.length_drop, h.1], fun i hi => ?_⟩
  obtain ⟨p, e, t⟩ := h.2 (1 + i) (by omega)
  exact ⟨p, by rw [List.getElem?_drop]; exact e, t⟩
theorem Clms.keep {W : Addr → Prop} {R : Nat → Kw.Row} {n : Nat} {xs : List V} (h : Clms K H R n xs) (k : Keep W H H') (l : ∀ b, W b → ∃ xs, H b = some (.lst xs)) : Clms K H' R n xs := ⟨h.1, fun i hi => by
  obtain ⟨p, e, dx, t⟩ := h.2 i hi
  refine ⟨p, e, dx, k _ _ (fun w => ?_) t⟩
  obtain ⟨ys, e2⟩ := l _ w
  rw [t] at e2
  cases e2⟩
theorem ClsAt.keep {W : Addr → Prop} {a : Addr} {R : Nat → Kw.Row} {n : Nat} (h : ClsAt K H a R n) (k : Keep W H H') (l : ∀ b, W b → ∃ xs, H b = some (.lst xs)) (nw : ¬ W a) : ClsAt K H' a R n := by
  obtain ⟨vs, h1, h2⟩ := h
  refine ⟨vs, ?_, h2.keep k l⟩
  rcases h1 with h1 | h1
  · exact .inl (k.sql nw h1)
  · exact .inr (k.sqt l h1)
/-- [e for x in a list or a tuple], whatever stood before is kept -/
theorem q_lcS {σ : L2.St} {Q : VK} {te : TE} {tt : TT} {g : TG} {ws : List Nat} {i : Nat} {a : Addr} {xs : List V} (h : σ[i]? = some (some (.ref a))) (hx : SqL K H a xs ∨ SqT K H a xs) (q : ∀ Dl, H Dl = none → ∃ Pv : Nat → Hp → Prop, Pv 0 (upd H Dl (.lst [])) ∧ (∀ i H', i ≤ xs.length → Pv i H' → Same H H') ∧
    (∀ i x H', xs[i]? = some x → Pv i H' → g x (wipe σ ws) H' fun σ2 H2 => wipe σ2 ws = wipe σ ws ∧ tt σ2 H2 fun b H3 => if b = true then te σ2 H3 fun y H4 => ∃ acc, H4 Dl = some (.lst acc) ∧ acc.length < sizeLine ∧ Pv (i + 1) (upd H4 Dl (.lst (acc ++ [y]))) else Pv (i + 1) H3) ∧ ∀ H', Pv xs.length H' → Q (.ref Dl) H') :
    tLc (iOr (iList K (tVar i)) (iTup K (tVar i))) g tt te ws σ H Q := by
  rcases hx with hx | hx
  · refine q_lc_l (q_lcL h hx fun Dl hD => ?_)
    obtain ⟨Pv, h0, hl, hs, hd⟩ := q Dl hD
    exact ⟨Pv, h0, fun i H' hi p => Same.sql (hl i H' hi p) hx, hs, hd⟩
  · refine q_lc_r (q_lcT hx (fun Qv qv => ⟨_, h, qv⟩) fun Dl hD => ?_)
    obtain ⟨Pv, h0, hl, hs, hd⟩ := q Dl hD
    exact ⟨Pv, h0, fun i H' hi p => Same.sqt (hl i H' hi p) hx, hs, hd⟩
end
end Kt

namespace Kt
open PySem PySem.Spec PyProof.Rows L2
local macro_rules
  | `(tactic| walk_at "sx") => `(tactic| repeat (first
    | with_reducible refine q_seq ?_ | with_reducible refine q_par ?_ | with_reducible refine q_augS ?_ | with_reducible refine q_rev ?_ | with_reducible refine q_yes ?_ | with_reducible refine q_gname ?_ | with_reducible refine q_setG ?_ | with_reducible refine q_ip ?_ | with_reducible refine q_asg ?_ | with_reducible refine q_asgG ?_ | with_reducible refine q_ret ?_ | with_reducible refine q_drop ?_ | with_reducible refine q_if ?_ | with_reducible refine q_next ?_
    | with_reducible refine q_test ?_ | with_reducible refine q_tB ?_ | with_reducible refine q_chain ?_ | with_reducible refine q_andV ?_ | with_reducible refine q_bl ?_ | with_reducible refine q_exint ?_ | ((with_reducible show tAug _ _ _ _ _ _); refine q_aug rfl ?_) | with_reducible refine q_not ?_ | with_reducible refine q_and ?_ | with_reducible refine q_or ?_
    | with_reducible refine q_op ?_ | with_reducible refine q_un ?_ | with_reducible refine q_c ?_ | ((with_reducible show tVar _ _ _ _); refine q_var rfl ?_)
    | with_reducible refine q_i0 ?_ | with_reducible refine q_u ?_ | with_reducible refine q_eq ?_ | with_reducible refine q_ne ?_ | with_reducible refine q_isN ?_ | with_reducible refine q_notN ?_ | with_reducible refine q_min2 ?_ | with_reducible refine q_abs ?_ | with_reducible refine q_int ?_
    | with_reducible refine q_nil ?_ | with_reducible refine q_cons ?_ | with_reducible refine q_tup ?_ | with_reducible refine q_lst ?_ | with_reducible refine q_call ?_ | with_reducible refine q_makeN ?_ | with_reducible refine q_make ?_ | with_reducible refine q_cb ?_
    | ((with_reducible show ite _ _ _); first | refine ift rfl ?_ | refine iff' rfl ?_)))
-- slots: 0 _law_script 1 _law_shape 2 _law_drawn 3 _law_size 4 _law_tells_here 5 _law_worlds 6 _law_frame 7 _law_source_here 8 _law_turn 9 _law_asked 10 _law_handed 11 _law_table_here 12 _law_cheapest_here 13 _law_claim 14 _law_more
abbrev s_law : Stmt := topS 69
theorem sc_law : FnScope ["_law_script", "_law_shape", "_law_drawn", "_law_size", "_law_tells_here", "_law_worlds", "_law_frame", "_law_source_here", "_law_turn", "_law_asked", "_law_handed", "_law_table_here", "_law_cheapest_here", "_law_claim", "_law_more"] ["_law_script"] (defScope s_law) := ⟨rfl, rfl, rfl, by decide +kernel, rfl, by decide +kernel, by decide +kernel⟩
section
variable {P : Program} {w : World} {K : PySem.W.Frag} {mg : Str → Option Value} {base : Heap}
theorem q_forRC {σ : L2.St} {H : Hp} {D : Ends} {tb : TS} {k : Nat} {n : Nat} (q : RG D tb k σ (.int (n : Int)) H) : tFor (iRng1 (tCons (tC (.int (n : Int))) tNil)) (gName k) tb D σ H := q.go
theorem Sc.rul {n h m : Nat} {R T : Nat → Kw.Row} {B : Nat → Int} {E : Nat → Nat} (s : Sc n h m R T B E) : RulOk n h R := by
  refine ⟨s.n1, s.n16, by have := s.hn; have := s.n16; omega, fun i hi => ?_, fun v hv hn => ?_, B, (pot_kps s.rset).mpr (base_kps s.rset)⟩
  · have r := s.rset.rl i hi
    obtain ⟨a, b, e1, e2, h1, h2⟩ := r.bnd
    exact ⟨r.f, r.s, r.ne, a, b, e1, e2, by omega⟩
  · obtain ⟨i, hi, u, hu, j, _⟩ := s.rset.tree v hv hn
    exact ⟨i, hi, u, hu, j⟩
def spLaw (K : PySem.W.Frag) : Sp := fun vs H Q _ => ∃ (a : Addr) (ns : List Int), vs = [.ref a] ∧ SqL K H a (ns.map V.int) ∧ ∀ H', Q (.bl true) H'
theorem funD_ok0 {x : Str} {st : Stmt} {N ps : List Str} {k : Nat} {sp : Sp} {f : Addr} {fd : FuncData} (F : FunD K x x (defArgs st) (defBody st) (defScope st) [] [] f fd) (S : FnScope N ps (defScope st)) (len : ∀ vs H Q E, sp vs H Q E → vs.length = ps.length)
    (hbody : ∀ (cdv : Value) (A : Around) (outer : List Env) (s : Shared) (H : Hp) (vs : List V) (Q : VK) (E : XK), Room k (A.deeper (envOfC x (defScope st) s.heap.objs.size f cdv)) → sp vs H Q E →
      ∃ t, PSs (cxOf CX0 P w K mg base N x (defScope st) f cdv A outer s H E).nox (defBody st) t ∧ t { nx := fun _ H' => Q .non H', rt := Q } (start N vs) H) : FnOk P w K mg base CX0 (k + 1) f fd ps sp :=
  F.ok S len fun cdv A outer s H vs Q E hr h => by
    obtain ⟨t, ht, q⟩ := hbody cdv A outer s H vs Q E hr h
    exact ⟨t, ht.nox, q⟩
theorem ok_law {f : Addr} {fd : FuncData} (F : FunD K "law" "law" (defArgs s_law) (defBody s_law) (defScope s_law) [] [] f fd) (fr : Fr mg) (C : ClsF K "Claim" claimNames) (h__law_source : Has P w K mg base CX0 1 "_law_source" ["_law_script", "_law_place"] (spSource K)) (h__law_scene : Has P w K mg base CX0 4 "_law_scene" ["_law_script", "_law_shape", "_law_most", "_law_wide", "_law_many"] (spScene K))
    (h__law_all_worlds : Has P w K mg base CX0 2 "_law_all_worlds" ["_law_size", "_law_rules_here"] (spAll K)) (h_Frame : HasC P w K mg base CX0 3 "Frame" ["self", "size", "rules"] (spFrameI K)) (h__law_claims : Has P w K mg base CX0 3 "_law_claims" ["_law_tells_here"] (spLawClaims K))
    (h_cheapest_table : Has P w K mg base (L2.CX P w) 7 "cheapest_table" ["frame", "claims"] (spCheap K)) (h__law_cheapest : Has P w K mg base CX0 3 "_law_cheapest" ["_law_worlds", "_law_tells_here"] (spLCheap K)) (h__law_right : Has P w K mg base CX0 4 "_law_right" ["_law_table_here", "_law_worlds", "_law_cheapest_here", "_law_size"] (spRight K))
    (h__law_outside : Has P w K mg base CX0 2 "_law_outside" ["_law_table_here", "_law_worlds", "_law_levels", "_law_node"] (spOutside K)) (h__law_draw : Has P w K mg base CX0 1 "_law_draw" ["_law_source_here", "_law_size"] (spDraw K)) (h_parts : HasM P w K mg base CX0 1 "Claim" "parts" ["self"] (spParts K))
    (h__law_strange : Has P w K mg base CX0 3 "_law_strange" ["_law_source_here", "_law_tells_here", "_law_size"] (spStrange K)) (h__law_refused : Has P w K mg base CX0 8 "_law_refused" ["_law_frame", "_law_claims_here", "_law_index"] (spRefused K)) :
    FnOk P w K mg base CX0 9 f fd ["_law_script"] (spLaw K) := by
  have sc := sc_law
  refine funD_ok0 F sc (fun vs H Q E h => ?_) (fun cdv A outer s0 H vs Q E0 hr h => ?_)
  · obtain ⟨a, ns, rfl, _⟩ := h
    rfl
  · obtain ⟨a, ns, rfl, hS, q⟩ := h
    have hu4 : (A.deeper (envOfC "law" (defScope s_law) s0.heap.objs.size f cdv)).units + 64 < cLine := by have := hr.un; omega
    refine ⟨_, (pss_cons (ps_set (i := 1) sc.nd rfl (Or.inl rfl) (pe_has h__law_source (hr.mono (by decide)) pass0 (pa_cons (pv 0) (pa_cons pe_int pa_nil))))
       (pss_cons (ps_set (i := 2) sc.nd rfl (Or.inl rfl) (pe_has h__law_scene (hr.mono (by decide)) pass0 (pa_cons (pv 0) (pa_cons (pv 1) (pa_cons pe_int (pa_cons pe_int (pa_cons pe_int pa_nil)))))))
       (pss_cons (ps_set (i := 3) sc.nd rfl (Or.inl rfl) (pe_ixL (K := K) rfl (pv 2) pe_int (fun _ _ => rfl)))
       (pss_cons (ps_set (i := 4) sc.nd rfl (Or.inl rfl) (pe_ixL (K := K) rfl (pv 2) pe_int (fun _ _ => rfl)))
       (pss_cons (ps_set (i := 5) sc.nd rfl (Or.inl rfl) (pe_has h__law_all_worlds (hr.mono (by decide)) pass0 (pa_cons (pv 3) (pa_cons (pe_ixL (K := K) rfl (pv 2) pe_int (fun _ _ => rfl)) pa_nil))))
       (pss_cons (ps_set (i := 6) sc.nd rfl (Or.inl rfl) (pe_hasC (K := K) rfl h_Frame (hr.mono (by decide)) pass0 (pa_cons (pv 3) (pa_cons (pe_callTy (T := "list") (c_list (K := K) rfl) (by rfl) fr.list (by decide +kernel) (pa_cons (pe_ixL (K := K) rfl (pv 2) pe_int (fun _ _ => rfl)) pa_nil)) pa_nil))))
       (pss_cons (ps_set (i := 7) sc.nd rfl (Or.inl rfl) (pe_has h__law_source (hr.mono (by decide)) pass0 (pa_cons (pv 0) (pa_cons pe_int pa_nil))))
       (pss_cons (ps_for PassesOwn.never rfl (pi_range1 (by rfl) fr.range (pa_cons pe_int pa_nil)) (pg_name (i := 8) sc.nd rfl (Or.inl rfl))
        (pss_cons (ps_set (i := 9) sc.nd rfl (Or.inl rfl) (pv 4))
       (pss_cons (ps_set (i := 10) sc.nd rfl (Or.inl rfl) (pe_has h__law_claims (hr.mono (by decide)) pass0 (pa_cons (pv 4) pa_nil)))
       (pss_mid (ps_if (pt_cmpR op_eq (pv 8) pe_int (nomark _)) (pss_cons (ps_set (i := 9) sc.nd rfl (Or.inl rfl) (pe_slice sl_list (pv 4) (po_some pe_int) po_none))
       (pss_one (ps_set (i := 10) sc.nd rfl (Or.inl rfl) (pe_callTy (T := "tuple") (c_tuple (K := K) rfl) (by rfl) fr.tuple (by decide +kernel) (pa_cons (pe_slice sl_list (pv 10) (po_some pe_int) po_none) pa_nil))))) pss_nil)
       (pss_cons (ps_set (i := 11) sc.nd rfl (Or.inl rfl) (pe_has h_cheapest_table (hr.mono (by decide)) passL (pa_cons (pv 6) (pa_cons (pv 10) pa_nil))))
       (pss_cons (ps_set (i := 12) sc.nd rfl (Or.inl rfl) (pe_has h__law_cheapest (hr.mono (by decide)) pass0 (pa_cons (pv 5) (pa_cons (pv 9) pa_nil))))
       (pss_cons (ps_if (pt_not (pt_val (pe_has h__law_right (hr.mono (by decide)) pass0 (pa_cons (pv 11) (pa_cons (pv 5) (pa_cons (pv 12) (pa_cons (pv 3) pa_nil))))))) (pss_one (ps_ret pe_bl)) pss_nil)
       (pss_cons (ps_if (pt_not (pt_val (pe_has h__law_outside (hr.mono (by decide)) pass0 (pa_cons (pv 11) (pa_cons (pv 5) (pa_cons (pe_ixL (K := K) rfl (pv 12) (pe_has h__law_draw (hr.mono (by decide)) pass0 (pa_cons (pv 7) (pa_cons (pe_callB (id := "len") (c_len (K := K) rfl) (by rfl) fr.len (by decide +kernel) (pa_cons (pv 12) pa_nil)) pa_nil))) (fun _ _ => rfl)) (pa_cons (pe_has h__law_draw (hr.mono (by decide)) pass0 (pa_cons (pv 7) (pa_cons (pv 3) pa_nil))) pa_nil))))))) (pss_one (ps_ret pe_bl)) pss_nil)
       (pss_cons (ps_if (pt_cmpR (op_neD hu4) (pe_lc (own := [("_law_claim", 13)]) (g := gName 13) (tt := tYes) rfl sc.nd (pi_or (pi_listK (K := K) rfl (pv 10)) (pi_tupK (K := K) rfl (pv 10))) (blkOk_by (by kernel_rfl)) (fun _ _ _ _ _ => (pg_name (i := 13) sc.nd rfl (Or.inl rfl))) (fun _ _ _ _ _ => pts_nil) (fun _ _ _ _ _ => (pe_hasM (K := K) rfl h_parts (hr.mono (by decide)) pass0 (pv 13)))) (pv 9) (nomark _)) (pss_one (ps_ret pe_bl)) pss_nil)
       (pss_cons (ps_expr (bmK (K := K) (pe_bm PySem.F.plainAttrs_list PySem.F.slot_list_append PySem.F.type_list_append mt_append (pv 11) (pa_cons (pe_lst (pa_cons pe_int pa_nil)) pa_nil)) rfl))
       (pss_one (ps_asg (pe_op op_sub pe_int pe_int) (pg_sub (pe_ixL (K := K) rfl (pv 11) pe_int (fun _ _ => rfl)) pe_int set_list)))))))))))))
       (pss_cons (ps_if (pt_cmpR op_eq (pv 3) pe_int (nomark _)) (pss_one (ps_ret pe_bl)) pss_nil)
       (pss_cons (ps_set (i := 14) sc.nd rfl (Or.inl rfl) (pe_has h__law_strange (hr.mono (by decide)) pass0 (pa_cons (pv 1) (pa_cons (pv 4) (pa_cons (pv 3) pa_nil)))))
       (pss_one (ps_ret (pe_has h__law_refused (hr.mono (by decide)) pass0 (pa_cons (pv 6) (pa_cons (pe_has h__law_claims (hr.mono (by decide)) pass0 (pa_cons (pe_ixL (K := K) rfl (pv 14) pe_int (fun _ _ => rfl)) pa_nil)) (pa_cons (pe_ixL (K := K) rfl (pv 14) pe_int (fun _ _ => rfl)) pa_nil)))))))))))))))), ?_⟩
    walk_at "sx"
    refine ⟨a, ns, 3, rfl, hS, fun H1 sh s1 nsh src1 => ?_⟩
    walk_at "sx"
    have hsc : ∀ H', Keep (· = sh) H1 H' → SqL K H' a (ns.map V.int) := fun H' k => Same.sql (Same.keepNew s1 k nsh) hS
    refine ⟨a, sh, ns, rfl, src1, hsc, fun H2 dr ra ta ba xs ys n h m R T B E k2 src2 ndr hdr nra hra htr nta hta htt scn => ?_⟩
    walk_at "sx"
    refine q_ixL (.of hdr) (atI_nat (j := 0) rfl) ?_
    walk_at "sx"
    refine q_ixL (.of hdr) (atI_nat (j := 2) rfl) ?_
    walk_at "sx"
    refine q_ixL (.of hdr) (atI_nat (j := 1) rfl) ?_
    walk_at "sx"
    refine ⟨n, h, ra, xs, R, B, E, rfl, hra, htr, scn.n1, scn.n16, scn.hn, scn.rset, scn.bud, scn.bb, fun H3 wo ws vs1 s3 nwo hwo pws w256 sound full => ?_⟩
    walk_at "sx"
    refine q_ixL (.of (s3 _ _ hdr)) (atI_nat (j := 1) rfl) ?_
    walk_at "sx"
    refine ⟨ra, xs, rfl, .inl (.of (s3 _ _ hra)), fun rl nrl => ?_⟩
    have s4 := same_upd (o := .lst xs) nrl
    walk_at "sx"
    intro me dx n1 n2 n3
    have s5 : Same (upd H3 rl (.lst xs)) (upd (upd (upd H3 rl (.lst xs)) dx (.own me)) me (.ins (cAt K "Frame") dx [])) := (same_upd n2).trans (same_upd (by rw [upd_ne n3.symm]; exact n1))
    refine ⟨me, dx, rl, xs, n, h, R, rfl, upd_same, .of (s5 _ _ upd_same), htr.same ((s3.trans s4).trans s5), scn.rul, fun H5 t k5 nt hme ht => ⟨rfl, ?_⟩⟩
    have s6 : Same (upd H3 rl (.lst xs)) H5 := Same.keepNew s5 k5 n1
    have s25 : Same H2 H5 := (s3.trans s4).trans s6
    have s02 : Same H H2 := Same.keepNew s1 k2 nsh
    have frA : FrAt K H5 me n h R := ⟨dx, t, xs, hme, ht, htr.same s25⟩
    have hwo5 : H5 wo = some (.lst vs1) := s6 _ _ (s4 _ _ hwo)
    have pw5 : Paired (wlP H5 wo n) vs1 ws := Paired.mapP pws fun v L z => z.same (s4.trans s6)
    have hta5 := s25 _ _ hta
    have htt5 := htt.same s25
    have src5 := src2.same s25
    walk_at "sx"
    refine ⟨a, ns, 4, rfl, Same.sql (s02.trans s25) hS, fun H6 so s56 nso src6 => ?_⟩
    walk_at "sx"
    have wne : ws ≠ [] := fun z => by
      obtain ⟨L, hL, _⟩ := full B scn.b0 (base_kps scn.rset)
      rw [z] at hL
      cases hL
    have rn : ∀ i, i < h → (R i).rm = none := fun i hi => (scn.rset.rl i hi).rm
    have n1 := scn.n1
    have n16 := scn.n16
    have m14 := scn.m14
    refine q_forRC (n := 3) ⟨3, rfl, by decide, fun i σ H' => Same H5 H' ∧ SrcAt H' so ∧ ∃ y8 y9 y10 y11 y12 y13 y14, σ = [some (.ref a), some (.ref sh), some (.ref dr), some (.int n), some (.ref ta), some (.ref wo), some (.ref me), some (.ref so), y8, y9, y10, y11, y12, y13, y14], ⟨s56, src6, _, _, _, _, _, _, _, rfl⟩, ?_, ?_⟩
    · rintro i σ H' hi ⟨s7, src7, y8, y9, y10, y11, y12, y13, y14, rfl⟩
      walk_at "sx"
      refine ⟨ta, ys, T, m, rfl, .of (s7 _ _ hta5), htt5.same s7, by omega, fun i hi => (scn.tel i hi).clm n16, fun H8 ho zs s8 nho hho cl => ?_⟩
      have hos : ho ≠ so := src7.ne nho
      have s58 := s7.trans s8
      have src8 := src7.same s8
      walk_at "sx"
      refine ⟨fun σ H' => Same H5 H' ∧ SrcAt H' so ∧ ∃ ka ha m' T' ys', H' ka = some (.lst ys') ∧ Tups K H' row5 T' m' ys' ∧ ka ≠ so ∧ ClsAt K H' ha T' m' ∧ ha ≠ so ∧ m' ≤ 14 ∧ (∀ i, i < m' → Tel n (T' i)) ∧ ∃ y11 y12 y13 y14, σ = [some (.ref a), some (.ref sh), some (.ref dr), some (.int n), some (.ref ta), some (.ref wo), some (.ref me), some (.ref so), some (.int i), some (.ref ka), some (.ref ha), y11, y12, y13, y14], ?_, ?_⟩
      · walk_at "sx"
        refine ifd (fun e => ?_) (fun e => ?_)
        · walk_at "sx"
          refine q_sl ?_
          walk_at "sx"
          refine q_part ?_
          walk_at "sx"
          refine q_nopart ?_
          refine q_sl1 (.of (s58 _ _ hta5)) fun ka nka => ?_
          have t1 := same_upd (o := .lst (ys.drop 1)) nka
          walk_at "sx"
          refine q_sl ?_
          walk_at "sx"
          refine q_part ?_
          walk_at "sx"
          refine q_nopart ?_
          refine q_sl1 (.of (t1 _ _ hho)) fun kb nkb => ?_
          have t2 := same_upd (o := .lst (zs.drop 1)) nkb
          walk_at "sx"
          refine ⟨kb, _, rfl, .inl ⟨.of upd_same, fun kc nkc => ?_⟩⟩
          have t3 := same_upd (o := .tup (zs.drop 1)) nkc
          have t13 := (t1.trans t2).trans t3
          walk_at "sx"
          exact ⟨s58.trans t13, src8.same t13, ka, kc, m - 1, _, ys.drop 1, (t2.trans t3) _ _ upd_same, ((htt5.same s58).drop1).same t13, src8.ne nka, ⟨zs.drop 1, .inr (.of upd_same), (cl.drop1).same t13⟩, src8.ne (t1.free (t2.free nkc)), by omega, fun i hi => scn.tel _ (by omega), _, _, _, _, rfl⟩
        · walk_at "sx"
          exact ⟨s58, src8, ta, ho, m, T, ys, s58 _ _ hta5, htt5.same s58, (fun z => by rw [z] at hta5; rw [hta5] at nso; cases nso), ⟨zs, .inl (.of hho), cl⟩, hos, m14, scn.tel, _, _, _, _, rfl⟩
      clear hos s58 src8 cl hho s8 nho src7 s7
      rintro σ H8 ⟨s8, src8, ka, ha, m', T', ys', hka, htk, kas, hcl, has, hm, tel, z11, z12, z13, z14, rfl⟩
      walk_at "sx"
      refine ⟨me, ha, n, h, m', R, T', rfl, frA.same s8, scn.rul, rn, hcl, by omega, fun i hi => (tel i hi).clm n16, .inl ⟨fun i hi => ⟨(tel i hi).f, (tel i hi).s⟩, fun H9 tb rs F s9 ntb nrs dn tab => ?_⟩⟩
      have s59 := s8.trans s9
      have tbs : tb ≠ so := src8.ne ntb
      have rss : ∀ i, i < n → rs i ≠ so := fun i hi => src8.ne (nrs i hi)
      have ntb5 := s8.free ntb
      have nrs5 : ∀ i, i < n → H5 (rs i) = none := fun i hi => s8.free (nrs i hi)
      walk_at "sx"
      refine ⟨wo, ka, n, m', vs1, ys', ws, T', rfl, s59 _ _ hwo5, Paired.mapP pw5 (fun v L z => z.same s59), wne, w256, .of (s9 _ _ hka), htk.same s9, by omega, tel, fun H10 co vs2 cs g s10 nco hco pco gle mem cne c256 in2 => ?_⟩
      obtain ⟨W, e1, e2, e3, e4⟩ := join scn.rset n1 tel (base_of scn.rul rn (fun i hi => (tel i hi).clm n16) fun i hi => ⟨(tel i hi).f, (tel i hi).s⟩) dn sound full gle mem cne
      have src10 := (src8.same s9).same s10
      have cos : co ≠ so := (src8.same s9).ne nco
      have s510 := s59.trans s10
      have tab1 := (tab.congr e1).same s10
      walk_at "sx"
      refine ⟨tb, wo, co, rs, W, n, vs1, vs2, ws, cs, rfl, tab1, n1, n16, s510 _ _ hwo5, Paired.mapP pw5 (fun v L z => z.same s510), w256, hco, pco, cne, c256, e2, e3, fun H11 s11 => ?_⟩
      have src11 := src10.same s11
      have lc : vs2.length = cs.length := Paired.length pco
      have c1 : 1 ≤ cs.length := List.length_pos_iff.mpr cne
      have u11 := s510.trans s11
      walk_at "sx"
      refine q_len (.of (s11 _ _ hco)) ?_
      walk_at "sx"
      refine ⟨so, _, rfl, src11, by omega, by omega, fun H12 r k12 src12 lr => ?_⟩
      obtain ⟨v, ev⟩ : ∃ v, vs2[r]? = some v := ⟨_, List.getElem?_eq_getElem (show r < vs2.length by omega)⟩
      obtain ⟨L, eL, p, rfl, pne, hp⟩ := paired_r pco ev
      have hL : L ∈ cs := List.mem_of_getElem? eL
      have hp11 := s11 _ _ hp
      have pso : p ≠ so := fun z => by
        obtain ⟨i', ei⟩ := List.getElem?_of_mem (in2 _ (List.mem_of_getElem? ev))
        obtain ⟨M, _, q', eq', _, hq'⟩ := paired_r pw5 ei
        cases eq'
        rw [z, nso] at hq'
        cases hq'
      have hco12 := k12 _ _ cos (s11 _ _ hco)
      refine q_ixL (.of hco12) (atI_nat ev) ?_
      walk_at "sx"
      refine ⟨so, _, rfl, src12, by omega, by omega, fun H13 v k13 src13 lv => ?_⟩
      have k113 := k12.trans k13
      have u13 := Same.keepNew u11 k113 nso
      have tab13 := (tab1.same s11).keep k113 tbs rss
      refine ⟨tb, wo, p, rs, W, n, v, vs1, ws, L, rfl, tab13, n16, by omega, u13 _ _ hwo5, Paired.mapP pw5 (fun v L z => z.same u13), w256, k113 _ _ pso hp11, (sound L ((mem L).mp hL).1).z, e4 v (by omega), fun H14 s14 => ?_⟩
      have u14 := u13.trans s14
      have src14 := src13.same s14
      have k1114 := k113.trans (Same.keep s14)
      have k1014 : Keep (· = so) H10 H14 := (Same.keep s11).trans k1114
      have k914 : Keep (· = so) H9 H14 := (Same.keep s10).trans k1014
      have k814 : Keep (· = so) H8 H14 := (Same.keep s9).trans k914
      have hka14 := k814 _ _ kas hka
      have htk14 := htk.keep k814 src8.lst
      obtain ⟨xs', hxs, hcs⟩ := hcl.keep k814 src8.lst has
      have tab14 := tab13.same s14
      clear k814 k914 k1014 k1114 k113 k12 k13 s14 s11 s10 s9 hcl htk hka tab tab1 tab13 hco pco hco12
      walk_at "sx"
      have en : xs'.length = m' := hcs.1
      refine q_lcS rfl hxs fun o no => ⟨fun j H' => ∃ zs, Same H14 H' ∧ H' o = some (.lst zs) ∧ Tups K H' row5 T' j zs, ⟨[], same_upd no, upd_same, Tups.nil⟩, ?_, ?_, ?_⟩
      · rintro j H' hj ⟨zs, sm, _⟩
        exact sm
      · rintro j x H' hx ⟨zs, sm, h1, t1⟩
        obtain ⟨hj, q', rfl, dx', hq'⟩ := hcs.get hx
        have hm' := sm _ _ hq'
        refine q_gname ?_
        refine ⟨wipe1, ?_⟩
        walk_at "sx"
        refine q_meth rfl hm' rfl ?_
        refine ⟨q', T' j, rfl, ⟨dx', hm'⟩, fun H2 t s2 nt ht => ?_⟩
        have hto : t ≠ o := (ne_of_none h1 nt).symm
        have k3 : Keep (· = o) H' (upd H2 o (.lst (zs ++ [.ref t]))) := (Same.keep s2).upd rfl
        refine ⟨zs, s2 _ _ h1, line_of (by rw [t1.1]; omega), _, (sm.trans s2).mut' no, upd_same, ?_, fun k hk => ?_⟩
        · rw [List.length_append, t1.1]
          rfl
        · by_cases e : k = j
          · subst e
            refine ⟨t, ?_, SqT.of ?_⟩
            · rw [← t1.1, List.getElem?_append_right (Nat.le_refl _), Nat.sub_self]
              rfl
            · rw [upd_ne hto]
              exact ht
          · obtain ⟨p1, e1, t2⟩ := t1.2 k (by omega)
            refine ⟨p1, ?_, k3.sqt (fun b e => by rw [e]; exact ⟨_, h1⟩) t2⟩
            rw [List.getElem?_append_left (by rw [t1.1]; omega)]
            exact e1
      rintro H15 ⟨zs, s15, ho15, t15⟩
      rw [en] at t15
      walk_at "sx"
      refine ⟨_, _, dp_tells (.of ho15) t15, dp_tells (.of (s15 _ _ hka14)) (htk14.same s15), shaped_tells _ _, shaped_tells _ _, ?_⟩
      rw [eqv_tells]
      walk_at "sx"
      have u15 := u14.trans s15
      have src15 := src14.same s15
      have tab15 := tab14.same s15
      refine q_appV rfl tab15.top ?_
      walk_at "sx"
      refine ⟨line_le (n := 1) (by decide), fun p8 np8 => ?_⟩
      have s16 := same_upd (o := .lst [.int 8]) np8
      have tab16 := tab15.same s16
      walk_at "sx"
      refine q_rapp tab16.top (by rw [flV_len]; exact line_of (by omega)) ?_
      walk_at "sx"
      have e0 : (flV (fun i => V.ref (rs i)) n ++ [V.ref p8])[0]? = some (.ref (rs 0)) := by
        rw [List.getElem?_append_left (by rw [flV_len]; omega)]
        exact flV_get (by omega)
      refine q_ixL (.of upd_same) (atI_nat (j := 0) e0) ?_
      walk_at "sx"
      refine q_set (j := 0) (by rw [upd_ne (tab16.ne 0 (by omega))]; exact tab16.row 0 (by omega)) (by rw [flV_len]; omega) ?_
      have src16 := src15.same s16
      refine ⟨((u15.trans s16).mut' ntb5).mut' (nrs5 0 (by omega)), ?_, _, _, _, _, _, _, _, rfl⟩
      obtain ⟨x1, x2, x3⟩ := src16
      exact ⟨x1, x2, by rw [upd_ne (rss 0 (by omega)).symm, upd_ne tbs.symm]; exact x3⟩
    · rintro σ H7 ⟨s7, src7, y8, y9, y10, y11, y12, y13, y14, rfl⟩
      walk_at "sx"
      refine ifd (fun e => ?_) (fun e => ?_)
      · walk_at "sx"
        exact q _
      · walk_at "sx"
        have sh7 := src5.same s7
        refine ⟨sh, ta, n, m, ys, T, rfl, sh7, ?_, s7 _ _ hta5, htt5.same s7, n1, by omega, m14, scn.tel, fun H8 o p zs T2 k k8 no ho np hp t2 hk f1 f2 f3 => ?_⟩
        · exact src1.ne nta
        walk_at "sx"
        refine q_ixL (.of ho) (atI_nat (j := 0) rfl) ?_
        walk_at "sx"
        refine ⟨p, zs, T2, m + 2, rfl, .of hp, t2, by omega, f3, fun H9 o2 ys2 s9 no2 ho2 cl2 => ?_⟩
        walk_at "sx"
        refine q_ixL (.of (s9 _ _ ho)) (atI_nat (j := 1) rfl) ?_
        walk_at "sx"
        exact ⟨me, o2, n, h, m + 2, k, R, T2, rfl, ((frA.same s7).keep k8 sh7.lst).same s9, scn.rul, rn, ⟨ys2, .inl (.of ho2), cl2⟩, by omega, f3, by omega, f1, f2, fun H10 _ => q H10⟩
end
end Kt

namespace Kt
open PySem PySem.Spec PyProof.Rows L2
open PySem.W (OpenRow OpenLaw)
/-! ### what is read off the top's end -/
/-- a class over ValueError -/
def oexB (K : PySem.W.Frag) (C : Addr) : Bool := (match K.lookup C with
  | some ⟨.type c, _, .cls cd, sl⟩ => decide (c = "type") && (match cd.mro, sl.toList with
    | .ref C' :: bm, [_, _, _, _, some (.builtin n), _] => decide (C' = C) && (decide (n = "ValueError.__new__") && (!cd.hasDel && (cd.hasDict && PySem.HandSPX.refsVE bm)))
    | _, _ => false)
  | _ => false) && (He.eqO (PySem.W.findIn K (.ref C) "__setattr__") (some (some (.builtin "object.__setattr__"))) && (decide (PySem.W.subIn K (.ref C) (.type "BaseException") = some true) && (decide (PySem.W.typeIn K (.ref C) = some (.type "type")) && PySem.W.keepIn K (.ref C))))
theorem oexB_ok {K : PySem.W.Frag} {C : Addr} (h : oexB K C = true) : OexC K C := by
  obtain ⟨h0, h⟩ := He.ba h
  obtain ⟨h1, h⟩ := He.ba h
  obtain ⟨h2, h⟩ := He.ba h
  obtain ⟨h3, h4⟩ := He.ba h
  refine ⟨?_, He.eqO_ok h1, of_decide_eq_true h2, of_decide_eq_true h3, h4⟩
  split at h0
  · rename_i c dd cd sl ho
    obtain ⟨a1, a2⟩ := He.ba h0
    split at a2
    · rename_i C' bm k0 k1 k2 k3 n k5 hm hs
      obtain ⟨b1, b2⟩ := He.ba a2
      obtain ⟨b3, b4⟩ := He.ba b2
      obtain ⟨b5, b6⟩ := He.ba b4
      obtain ⟨b7, b8⟩ := He.ba b6
      have e1 := of_decide_eq_true a1
      have e2 := of_decide_eq_true b1
      have e3 := of_decide_eq_true b3
      have e5 : cd.hasDel = false := by
        cases z : cd.hasDel with
        | false => rfl
        | true =>
          rw [z] at b5
          cases b5
      subst e1 e2 e3
      obtain ⟨nm, bs, mro, ns, qn, hd, sn, sub, ab, col, del⟩ := cd
      dsimp only at hm e5 b7
      subst hm e5 b7
      have hsl : sl = #[k0, k1, k2, k3, some (.builtin "ValueError.__new__"), k5] := by
        obtain ⟨l⟩ := sl
        simp only at hs
        rw [hs]
      subst hsl
      exact ⟨nm, qn, ns, bs, bm, sn, sub, ab, col, dd, k0, k1, k2, k3, k5, ho, b8⟩
    · cases a2
  · cases h0
def excB (K : PySem.W.Frag) (D : Addr) : Bool := He.eqO (PySem.W.findIn K (.ref D) "__getattribute__") (some (some (.builtin "BaseException.__getattribute__"))) && (He.eqO (PySem.W.findIn K (.ref D) "__getattr__") (some none) && (decide (PySem.W.subIn K (.ref D) (.type "BaseException") = some true) && (PySem.W.hasDictIn K D &&
  (He.eqO (PySem.W.findIn K (.ref D) "__class__") (some (some (.builtin "object.__class__"))) && (He.eqO (PySem.W.specialIn K (.builtin "object.__class__") "__get__") (some (some (.builtin "getset_descriptor.__get__"))) && (decide (PySem.W.takesIn K (.builtin "object.__class__") = some true) && decide (PySem.W.mroIn K D (.type "object") = some true)))))))
theorem excB_ok {K : PySem.W.Frag} {D : Addr} (h : excB K D = true) : ExcC K D := by
  obtain ⟨h1, h⟩ := He.ba h
  obtain ⟨h2, h⟩ := He.ba h
  obtain ⟨h3, h⟩ := He.ba h
  obtain ⟨h4, h⟩ := He.ba h
  obtain ⟨h5, h⟩ := He.ba h
  obtain ⟨h6, h⟩ := He.ba h
  obtain ⟨h7, h8⟩ := He.ba h
  exact ⟨He.eqO_ok h1, He.eqO_ok h2, of_decide_eq_true h3, h4, He.eqO_ok h5, He.eqO_ok h6, of_decide_eq_true h7, of_decide_eq_true h8⟩
abbrev nsI (K : PySem.W.Frag) : Addr := He.ma K (cAt K "NoSuchNode") "__init__"
/-- the def that says super() -/
abbrev SupV : Type := Option (Str × Str × Arguments × FuncBody × Scope × Addr × List Str × Value × Value × Addr)
def supV (K : PySem.W.Frag) : SupV := match K.lookup (nsI K) with
  | some ⟨_, _, .func fd, _⟩ => some (fd.name, fd.qualname, fd.params, fd.body, fd.scope, fd.globals, fd.closure.map (·.1), fd.defaults, fd.kwdefaults, fd.builtins)
  | _ => none
def supVal : SupV := some ("__init__", "NoSuchNode.__init__", defArgs s_NoSuchNode__init, .stmts (defBody s_NoSuchNode__init), defScope s_NoSuchNode__init, mainGlobals, ["__class__"], .none, .none, builtinsNs)
def codeB (K : PySem.W.Frag) (file : Str) (v : Value) : Bool := match v with
  | .ref cda => PySem.W.codeIn K (.ref cda) "NoSuchNode.__init__" && (match K.lookup cda with
    | some ⟨_, _, .fields vs, _⟩ => (match (vs[2]? : Option Value) with
      | some (Value.str f _) => file == f
      | _ => false)
    | _ => false)
  | _ => false
def cellB (K : PySem.W.Frag) (C : Addr) (c : Addr) : Bool := match K.lookup c with
  | some ⟨_, _, .cell (some (.ref C')), _⟩ => decide (C' = C)
  | _ => false
def supB (K : PySem.W.Frag) (file : Str) : Bool := (match K.lookup (nsI K) with
  | some ⟨_, _, .func fd, _⟩ => codeB K file fd.code && fd.closure.all fun q => cellB K (cAt K "NoSuchNode") q.2
  | _ => false) && ((match K.lookup (cAt K "NoSuchNode") with
  | some ⟨_, _, .cls cd, _⟩ => He.eqO (PySem.W.alongIn K "__init__" ((cd.mro.dropWhile (· != .ref (cAt K "NoSuchNode"))).drop 1)) (some (some (.builtin "ValueError.__init__")))
  | _ => false) && (decide (PySem.W.mroIn K (cAt K "NoSuchNode") (.ref (cAt K "NoSuchNode")) = some true) && (decide (PySem.W.subIn K (.ref (cAt K "NoSuchNode")) (.type "ValueError") = some true) && He.eqO (PySem.W.nsIn K cStatics "thirdparty.any") (some none))))
theorem supB_ok {P : Program} {K : PySem.W.Frag} (h : supB K P.main.file = true) (e : supV K = supVal) (top : (P.main.scope.names.lookup ("super" : Str)).isSome = false) : ∃ fd cc, SupF P K (cAt K "NoSuchNode") (nsI K) cc fd ∧ Binds K fd ["self", "index"] [] := by
  obtain ⟨h0, h⟩ := He.ba h
  obtain ⟨h1, h⟩ := He.ba h
  obtain ⟨h2, h⟩ := He.ba h
  obtain ⟨h3, h4⟩ := He.ba h
  unfold supV at e
  cases q : K.lookup (nsI K) with
  | none =>
    rw [q] at h0
    cases h0
  | some o =>
    obtain ⟨oc, od, dt, osl⟩ := o
    rw [q] at h0 e
    cases dt with
    | func fd =>
      obtain ⟨n1, n2, n3, n4, n5, n6, n7, n8, n9, n10, n11, n12, n13, n14, n15⟩ := fd
      have e2 : (some (n1, n2, n3, n4, n5, n6, n7.map (·.1), n8, n9, n15) : SupV) = supVal := e
      unfold supVal at e2
      simp only [Option.some.injEq, Prod.mk.injEq] at e2
      obtain ⟨g1, g2, g3, g4, g5, g6, g7, g8, g9, g10⟩ := e2
      subst g1 g2 g3 g4 g5 g6 g8 g9 g10
      obtain ⟨y, cc, rfl⟩ : ∃ y cc, n7 = [(y, cc)] := by
        match n7, g7 with
        | [(y, cc)], _ => exact ⟨y, cc, rfl⟩
      have ey : y = "__class__" := (List.cons.inj g7).1
      subst ey
      obtain ⟨c0, c2⟩ := He.ba (show (codeB K P.main.file n13 && cellB K (cAt K "NoSuchNode") cc && true) = true by rw [Bool.and_true]; have z : (codeB K P.main.file n13 && (cellB K (cAt K "NoSuchNode") cc && true)) = true := h0; rw [Bool.and_true] at z; exact z)
      obtain ⟨c1, c3⟩ := He.ba c0
      unfold codeB at c1
      split at c1
      · rename_i cda
        obtain ⟨d1, d2⟩ := He.ba c1
        split at d2
        · rename_i ccl cdd vs ccs hco
          split at d2
          · rename_i file tf hvs
            unfold cellB at c3
            split at c3
            · rename_i cl cld C' csl hcc
              have eC := of_decide_eq_true c3
              subst eC
              split at h1
              · rename_i oc2 od2 cd osl2 hC
                refine ⟨_, cc, ⟨⟨oc, _, _, _, od, _, osl, cda, [], cd, _, rfl, q, d1, ⟨_, _, vs, _, file, tf, hco, hvs, d2⟩, ⟨cl, cld, csl, hcc⟩, ?_, hC, rfl, He.eqO_ok h1⟩, of_decide_eq_true h2, of_decide_eq_true h3, He.eqO_ok h4, top⟩, .all fun us hl => ?_⟩
                · unfold PySem.W.clsIn
                  rw [hC]
                · match us, hl with
                  | [_, _], _ => rfl
              · cases h1
            · cases c3
          · cases d2
        · cases d2
      · cases c1
    | _ => cases h0

/-! ### the part of the heap, the Hook -/
def refsY (o : Obj) : List Addr := match o.data with
  | .dict es _ => es.toList.flatMap fun e => He.refV e.val
  | .seq its _ => its.toList.flatMap He.refV
  | .func fd => He.refV fd.code ++ (He.refV fd.defaults ++ (He.refV fd.kwdefaults ++ fd.closure.map (·.2)))
  | .cls cd => [cd.ns]
  | _ => []
def nextY (g : Addr → Option Obj) (as : List Addr) : List Addr := as.flatMap fun a => match g a with
  | some o => refsY o
  | none => []
def upY (g : Addr → Option Obj) : Nat → List Addr → List Addr
  | 0, as => as
  | n + 1, as => as ++ upY g n (nextY g as)
def asY (g : Addr → Option Obj) : List Addr := cStatics :: upY g 4 [mainGlobals]
abbrev AlY : Type := He.AlD × Bool × SupV
def obsY (fa : List He.Fa) (fn : List He.DefD) (ex : PySem.W.Frag → Bool) (K : PySem.W.Frag) : AlY := (He.obsD fa fn K, ex K, supV K)
def valY (fn : List He.DefD) : AlY := (He.valD fn, true, supVal)
def SaysY (fa : List He.Fa) (fn : List He.DefD) (ex : PySem.W.Frag → Bool) (K : PySem.W.Frag) : Prop := He.SaysD fa fn K ∧ ex K = true ∧ supV K = supVal
def obsYG (fa : List He.Fa) (fn : List He.DefD) (ex : PySem.W.Frag → Bool) (g : Addr → Option Obj) : AlY := obsY fa fn ex (He.frG g (asY g))
theorem saysY_of {fa : List He.Fa} {fn : List He.DefD} {ex : PySem.W.Frag → Bool} {K : PySem.W.Frag} (e : obsY fa fn ex K = valY fn) : SaysY fa fn ex K := by
  have e' : (He.obsD fa fn K, ex K, supV K) = (He.valD fn, true, supVal) := e
  injection e' with e1 e2
  injection e2 with e3 e4
  exact ⟨e1, e3, e4⟩
def hookY (fa : List He.Fa) (fn : List He.DefD) (ex : PySem.W.Frag → Bool) : PySem.W.Hook where
  α := AlY
  obs := fun s => obsYG fa fn ex s.heap.get?
  val := fun _ => valY fn
  says := fun _ h => ∃ K : PySem.W.Frag, K.In h ∧ SaysY fa fn ex K
  of := fun _ _ e => ⟨_, He.frG_in, saysY_of e⟩
  keeps := fun _ _ _ ⟨K, hK, c⟩ k => ⟨K, PySem.W.Frag.In.keeps hK k, c⟩
theorem obsYG_eq {fa : List He.Fa} {fn : List He.DefD} {ex : PySem.W.Frag → Bool} {g : Addr → Option Obj} {s : Shared} (h : ∀ a, g a = s.heap.get? a) : obsYG fa fn ex g = (hookY fa fn ex).obs s := by
  have e : g = s.heap.get? := funext h
  rw [e] <;> rfl
/-! ### the facts -/
abbrev RW : OpenRow := OpenLaw.row PySem.Challenge.rw_counthall_k66_whole_cheapest_table
def mkD (x : Str) (st : Stmt) : He.DefD := ⟨(x, none), x, x, defArgs st, defBody st, defScope st, [], []⟩
def mkM (C m q : Str) (st : Stmt) (dfl : List He.Dv) (kwd : List (Str × He.Dv)) : He.DefD := ⟨(C, some m), m, q, defArgs st, defBody st, defScope st, dfl, kwd⟩

def fn0 : List He.DefD := [mkD "bound_arcs" s_bound_arcs, mkD "rule_arcs" s_rule_arcs, mkD "check_nodes" s_check_nodes, mkD "pass_over" s_pass_over, mkD "closure" s_closure, mkD "improve" s_improve, mkD "walk_of" s_walk_of, mkD "as_tuples" s_as_tuples, mkD "in_table" s_in_table, mkD "rule_rows" s_rule_rows, mkD "claim_rows" s_claim_rows, mkD "negated" s_negated, mkD "raising" s_raising, mkD "change_of" s_change_of, mkD "left_arcs" s_left_arcs, mkD "lesser" s_lesser, mkD "way_left" s_way_left, mkD "send" s_send, mkD "push_row" s_push_row, mkD "pushed" s_pushed, mkD "cheapest_table" s_cheapest_table, mkD "rule_stands" s_rule_stands, mkD "all_connected" s_all_connected, mkD "_law_source" s__law_source, mkD "_law_draw" s__law_draw, mkD "_law_between" s__law_between, mkD "_law_rule" s__law_rule, mkD "_law_rules" s__law_rules, mkD "_law_tells" s__law_tells, mkD "_law_keeps" s__law_keeps]
def fn1 : List He.DefD := [mkD "_law_arcs" s__law_arcs, mkD "_law_table" s__law_table, mkD "_law_all_worlds" s__law_all_worlds, mkD "_law_claims" s__law_claims, mkD "_law_whole" s__law_whole, mkD "_law_wholes" s__law_wholes, mkD "_law_lists" s__law_lists, mkD "_law_moved" s__law_moved, mkD "_law_wider" s__law_wider, mkD "_law_scene" s__law_scene, mkD "_law_excess" s__law_excess, mkD "_law_growth" s__law_growth, mkD "_law_strange" s__law_strange, mkD "_law_cheapest" s__law_cheapest, mkD "_law_widest" s__law_widest, mkD "_law_right" s__law_right, mkD "_law_outside" s__law_outside, mkD "_law_refused" s__law_refused, mkD "law" s_law, mkM "Claim" "__init__" "Claim.__init__" s_Claim__init [.non, .non] [("weight", .int 1)], mkM "Claim" "parts" "Claim.parts" s_Claim_parts [] [], mkM "Frame" "__init__" "Frame.__init__" s_Frame__init [] []]
def fnY : List He.DefD := fn0 ++ fn1
def fa0 : List He.Fa := [.glo "bound_arcs", .glo "rule_arcs", .glo "check_nodes", .glo "pass_over", .glo "closure", .glo "improve", .glo "walk_of", .glo "as_tuples", .glo "in_table", .glo "rule_rows", .glo "claim_rows", .glo "negated", .glo "raising", .glo "change_of", .glo "left_arcs", .glo "lesser", .glo "way_left", .glo "send", .glo "push_row", .glo "pushed", .glo "cheapest_table", .glo "rule_stands", .glo "all_connected", .glo "_law_source", .glo "_law_draw", .glo "_law_between", .glo "_law_rule", .glo "_law_rules", .glo "_law_tells", .glo "_law_keeps"]
def fa1 : List He.Fa := [.glo "_law_arcs", .glo "_law_table", .glo "_law_all_worlds", .glo "_law_claims", .glo "_law_whole", .glo "_law_wholes", .glo "_law_lists", .glo "_law_moved", .glo "_law_wider", .glo "_law_scene", .glo "_law_excess", .glo "_law_growth", .glo "_law_strange", .glo "_law_cheapest", .glo "_law_widest", .glo "_law_right", .glo "_law_outside", .glo "_law_refused", .glo "law", .glo "Claim", .glo "Frame", .glo "NoSuchNode", .glo "HallError", .glo "Clash", .glo "BrokenChain", .free "len", .free "range", .free "abs", .free "min", .free "max"]
def fa2 : List He.Fa := [.free "sum", .free "int", .free "bool", .free "list", .free "tuple", .free "isinstance", .free "enumerate", .free "all", .free "str", .free "super", .free "ValueError", .int "LAST_NODE" 15, .int "MOST_WEIGHT" 99, .int "MOST_NODES" 16, .int "MOST_RULES" 60, .cls "Claim", .cls "Frame", .mkr "Claim", .mkr "Frame", .meth "Claim" "parts", .noat "Claim" "first", .noat "Claim" "second", .noat "Claim" "low", .noat "Claim" "high", .noat "Claim" "weight", .noat "Frame" "size", .noat "Frame" "rules"]
def faY : List He.Fa := fa0 ++ fa1 ++ fa2
def exY (K : PySem.W.Frag) : Bool := oexB K (cAt K "NoSuchNode") && (excB K (cAt K "NoSuchNode") && (xfB K (cAt K "NoSuchNode") && (He.eqO (PySem.W.findIn K (.ref (cAt K "NoSuchNode")) "index") (some none) && (decide (PySem.W.exmOne K (.ref (cAt K "NoSuchNode")) (.ref (cAt K "HallError")) = some true) &&
  (decide (PySem.W.kitOne K (.ref (cAt K "NoSuchNode")) (.ref (cAt K "NoSuchNode")) = some true) && (decide (PySem.W.kitOne K (.ref (cAt K "NoSuchNode")) (.type "ValueError") = some true) && (decide (PySem.W.kitOne K (.ref (cAt K "NoSuchNode")) (.ref (cAt K "Clash")) = some false) && (decide (PySem.W.kitOne K (.ref (cAt K "NoSuchNode")) (.ref (cAt K "BrokenChain")) = some false) &&
  (He.eqO (PySem.W.findIn K (.ref (cAt K "NoSuchNode")) "__init__") (some (some (.ref (nsI K)))) && (decide (PySem.W.typeIn K (.ref (nsI K)) = some (.type "function")) && supB K RW.prog.main.file))))))))))
def nmY0 : List PySem.Str := ["_wall", "HallError", "InvalidFrame", "InvalidClaim", "NoSuchNode", "BrokenChain", "Clash", "LAST_NODE", "MOST_WEIGHT", "Claim", "MOST_NODES", "MOST_RULES", "Frame", "bound_arcs", "rule_arcs", "check_nodes", "pass_over", "closure", "improve", "walk_of"]
def nmY1 : List PySem.Str := ["as_tuples", "in_table", "rule_rows", "claim_rows", "negated", "raising", "change_of", "left_arcs", "lesser", "way_left", "send", "push_row", "pushed", "cheapest_table", "rule_stands", "all_connected", "_law_source", "_law_draw", "_law_between", "_law_rule"]
def nmY2 : List PySem.Str := ["_law_rules", "_law_tells", "_law_keeps", "_law_arcs", "_law_table", "_law_all_worlds", "_law_claims", "_law_whole", "_law_wholes", "_law_lists", "_law_moved", "_law_wider", "_law_scene", "_law_excess", "_law_growth", "_law_strange", "_law_cheapest", "_law_widest", "_law_right", "_law_outside"]
def nmY3 : List PySem.Str := ["_law_refused"]
def nmY : List PySem.Str := nmY0 ++ nmY1 ++ nmY2 ++ nmY3
abbrev qvY : Program := PySem.W.view RW.prog [69]
abbrev hkY : PySem.W.Hook := hookY faY fnY exY
def obY (s : PySem.W.SharedT) : AlY := obsYG faY fnY exY (HandSHeadRun.getT s)
theorem obY_eq (s : PySem.W.SharedT) : obY s = hkY.obs s.abs := obsYG_eq (HandSHeadRun.getT_eq s)
set_option maxHeartbeats 0 in
theorem runY (w : World) : HandSHeadRun.RunEq RW qvY hkY obY 4000 nmY w := by
  intro os
  kernel_rfl

end Kt

namespace Kt
open PySem PySem.Spec PyProof.Rows L2
section
variable {P : Program} {w : World} {K : PySem.W.Frag} {mg : Str → Option Value} {base h : Heap}
theorem dkY (c : He.SaysD faY fnY K) (X : K.In h) (G : h.Ns mainGlobals mg) {x : Str} {st : Stmt} (i j : Nat) (hi : fnY[i]? = some (mkD x st)) (hj : faY[j]? = some (.glo x)) : Dk K mg x st := by
  obtain ⟨fd, F⟩ := c.def_ i hi
  exact ⟨_, fd, F, He.glo_ok X G (c.fact j hj)⟩
theorem frY (c : He.SaysD faY fnY K) (X : K.In h) (G : h.Ns mainGlobals mg) : Fr mg := by
  exact ⟨He.free_ok X G (c.fact 55 (f := .free "len") rfl), He.free_ok X G (c.fact 56 (f := .free "range") rfl), He.free_ok X G (c.fact 57 (f := .free "abs") rfl), He.free_ok X G (c.fact 58 (f := .free "min") rfl), He.free_ok X G (c.fact 59 (f := .free "max") rfl), He.free_ok X G (c.fact 60 (f := .free "sum") rfl), He.free_ok X G (c.fact 61 (f := .free "int") rfl), He.free_ok X G (c.fact 62 (f := .free "bool") rfl), He.free_ok X G (c.fact 63 (f := .free "list") rfl), He.free_ok X G (c.fact 64 (f := .free "tuple") rfl), He.free_ok X G (c.fact 65 (f := .free "isinstance") rfl), He.free_ok X G (c.fact 66 (f := .free "enumerate") rfl), He.free_ok X G (c.fact 67 (f := .free "all") rfl), He.free_ok X G (c.fact 68 (f := .free "str") rfl), He.free_ok X G (c.fact 69 (f := .free "super") rfl), He.free_ok X G (c.fact 70 (f := .free "ValueError") rfl)⟩
theorem clY (c : He.SaysD faY fnY K) : ClsF K "Claim" claimNames := ⟨He.cls_ok (c.fact 75 (f := .cls "Claim") rfl), fun f hf => by
  unfold claimNames at hf
  simp only [List.mem_cons, List.not_mem_nil, or_false] at hf
  rcases hf with rfl | rfl | rfl | rfl | rfl
  · exact He.noat_ok (c.fact 80 (f := .noat "Claim" "first") rfl)
  · exact He.noat_ok (c.fact 81 (f := .noat "Claim" "second") rfl)
  · exact He.noat_ok (c.fact 82 (f := .noat "Claim" "low") rfl)
  · exact He.noat_ok (c.fact 83 (f := .noat "Claim" "high") rfl)
  · exact He.noat_ok (c.fact 84 (f := .noat "Claim" "weight") rfl)⟩
theorem cfY (c : He.SaysD faY fnY K) : ClsF K "Frame" frameNames := ⟨He.cls_ok (c.fact 76 (f := .cls "Frame") rfl), fun f hf => by
  unfold frameNames at hf
  simp only [List.mem_cons, List.not_mem_nil, or_false] at hf
  rcases hf with rfl | rfl
  · exact He.noat_ok (c.fact 85 (f := .noat "Frame" "size") rfl)
  · exact He.noat_ok (c.fact 86 (f := .noat "Frame" "rules") rfl)⟩
theorem all_law {f : Addr} {fd : FuncData} (top : (P.main.scope.names.lookup ("super" : Str)).isSome = false) (ef : P.main.file = RW.prog.main.file) (s : SaysY faY fnY exY K) (X : K.In h) (G : h.Ns mainGlobals mg) (F : FunD K "law" "law" (defArgs s_law) (defBody s_law) (defScope s_law) [] [] f fd) : FnOk P w K mg base CX0 9 f fd ["_law_script"] (spLaw K) := by
  obtain ⟨c, ex, sv⟩ := s
  have fr := frY c X G
  have C := clY c
  have CF := cfY c
  have D_bound_arcs : Dk K mg "bound_arcs" s_bound_arcs := dkY c X G 0 0 rfl rfl
  have D_rule_arcs : Dk K mg "rule_arcs" s_rule_arcs := dkY c X G 1 1 rfl rfl
  have D_check_nodes : Dk K mg "check_nodes" s_check_nodes := dkY c X G 2 2 rfl rfl
  have D_pass_over : Dk K mg "pass_over" s_pass_over := dkY c X G 3 3 rfl rfl
  have D_closure : Dk K mg "closure" s_closure := dkY c X G 4 4 rfl rfl
  have D_improve : Dk K mg "improve" s_improve := dkY c X G 5 5 rfl rfl
  have D_walk_of : Dk K mg "walk_of" s_walk_of := dkY c X G 6 6 rfl rfl
  have D_as_tuples : Dk K mg "as_tuples" s_as_tuples := dkY c X G 7 7 rfl rfl
  have D_in_table : Dk K mg "in_table" s_in_table := dkY c X G 8 8 rfl rfl
  have D_rule_rows : Dk K mg "rule_rows" s_rule_rows := dkY c X G 9 9 rfl rfl
  have D_claim_rows : Dk K mg "claim_rows" s_claim_rows := dkY c X G 10 10 rfl rfl
  have D_negated : Dk K mg "negated" s_negated := dkY c X G 11 11 rfl rfl
  have D_raising : Dk K mg "raising" s_raising := dkY c X G 12 12 rfl rfl
  have D_change_of : Dk K mg "change_of" s_change_of := dkY c X G 13 13 rfl rfl
  have D_left_arcs : Dk K mg "left_arcs" s_left_arcs := dkY c X G 14 14 rfl rfl
  have D_lesser : Dk K mg "lesser" s_lesser := dkY c X G 15 15 rfl rfl
  have D_way_left : Dk K mg "way_left" s_way_left := dkY c X G 16 16 rfl rfl
  have D_send : Dk K mg "send" s_send := dkY c X G 17 17 rfl rfl
  have D_push_row : Dk K mg "push_row" s_push_row := dkY c X G 18 18 rfl rfl
  have D_pushed : Dk K mg "pushed" s_pushed := dkY c X G 19 19 rfl rfl
  have D_cheapest_table : Dk K mg "cheapest_table" s_cheapest_table := dkY c X G 20 20 rfl rfl
  have D_rule_stands : Dk K mg "rule_stands" s_rule_stands := dkY c X G 21 21 rfl rfl
  have D_all_connected : Dk K mg "all_connected" s_all_connected := dkY c X G 22 22 rfl rfl
  have D__law_source : Dk K mg "_law_source" s__law_source := dkY c X G 23 23 rfl rfl
  have D__law_draw : Dk K mg "_law_draw" s__law_draw := dkY c X G 24 24 rfl rfl
  have D__law_between : Dk K mg "_law_between" s__law_between := dkY c X G 25 25 rfl rfl
  have D__law_rule : Dk K mg "_law_rule" s__law_rule := dkY c X G 26 26 rfl rfl
  have D__law_rules : Dk K mg "_law_rules" s__law_rules := dkY c X G 27 27 rfl rfl
  have D__law_tells : Dk K mg "_law_tells" s__law_tells := dkY c X G 28 28 rfl rfl
  have D__law_keeps : Dk K mg "_law_keeps" s__law_keeps := dkY c X G 29 29 rfl rfl
  have D__law_arcs : Dk K mg "_law_arcs" s__law_arcs := dkY c X G 30 30 rfl rfl
  have D__law_table : Dk K mg "_law_table" s__law_table := dkY c X G 31 31 rfl rfl
  have D__law_all_worlds : Dk K mg "_law_all_worlds" s__law_all_worlds := dkY c X G 32 32 rfl rfl
  have D__law_claims : Dk K mg "_law_claims" s__law_claims := dkY c X G 33 33 rfl rfl
  have D__law_whole : Dk K mg "_law_whole" s__law_whole := dkY c X G 34 34 rfl rfl
  have D__law_wholes : Dk K mg "_law_wholes" s__law_wholes := dkY c X G 35 35 rfl rfl
  have D__law_lists : Dk K mg "_law_lists" s__law_lists := dkY c X G 36 36 rfl rfl
  have D__law_moved : Dk K mg "_law_moved" s__law_moved := dkY c X G 37 37 rfl rfl
  have D__law_wider : Dk K mg "_law_wider" s__law_wider := dkY c X G 38 38 rfl rfl
  have D__law_scene : Dk K mg "_law_scene" s__law_scene := dkY c X G 39 39 rfl rfl
  have D__law_excess : Dk K mg "_law_excess" s__law_excess := dkY c X G 40 40 rfl rfl
  have D__law_growth : Dk K mg "_law_growth" s__law_growth := dkY c X G 41 41 rfl rfl
  have D__law_strange : Dk K mg "_law_strange" s__law_strange := dkY c X G 42 42 rfl rfl
  have D__law_cheapest : Dk K mg "_law_cheapest" s__law_cheapest := dkY c X G 43 43 rfl rfl
  have D__law_widest : Dk K mg "_law_widest" s__law_widest := dkY c X G 44 44 rfl rfl
  have D__law_right : Dk K mg "_law_right" s__law_right := dkY c X G 45 45 rfl rfl
  have D__law_outside : Dk K mg "_law_outside" s__law_outside := dkY c X G 46 46 rfl rfl
  have D__law_refused : Dk K mg "_law_refused" s__law_refused := dkY c X G 47 47 rfl rfl
  obtain ⟨e1, ex⟩ := He.ba ex
  obtain ⟨e2, ex⟩ := He.ba ex
  obtain ⟨e3, ex⟩ := He.ba ex
  obtain ⟨e4, ex⟩ := He.ba ex
  obtain ⟨e5, ex⟩ := He.ba ex
  obtain ⟨e6, ex⟩ := He.ba ex
  obtain ⟨e7, ex⟩ := He.ba ex
  obtain ⟨e8, ex⟩ := He.ba ex
  obtain ⟨e9, ex⟩ := He.ba ex
  obtain ⟨e10, ex⟩ := He.ba ex
  obtain ⟨e11, e12⟩ := He.ba ex
  have XF : ExF K mg := ⟨excB_ok e2, xfB_ok e3, He.eqO_ok e4, (He.glo_ok X G (c.fact 52 (f := .glo "HallError") rfl)), (He.glo_ok X G (c.fact 51 (f := .glo "NoSuchNode") rfl)), (He.glo_ok X G (c.fact 53 (f := .glo "Clash") rfl)), (He.glo_ok X G (c.fact 54 (f := .glo "BrokenChain") rfl)), of_decide_eq_true e5, of_decide_eq_true e6, of_decide_eq_true e7, of_decide_eq_true e8, of_decide_eq_true e9⟩
  obtain ⟨fdS, cc, S, bS⟩ := supB_ok (P := P) (by rw [ef]; exact e12) sv top
  have h_NoSuchNode : HasX P w K mg base := ⟨oexB_ok e1, He.eqO_ok e10, of_decide_eq_true e11, (He.glo_ok X G (c.fact 51 (f := .glo "NoSuchNode") rfl)), fdS, ok_NoSuch_init fr (oexB_ok e1) S (He.eqO_ok e4), bS⟩
  obtain ⟨t1, g_LAST_NODE⟩ := He.int_ok X G (c.fact 71 (f := .int "LAST_NODE" 15) rfl)
  obtain ⟨t2, g_MOST_WEIGHT⟩ := He.int_ok X G (c.fact 72 (f := .int "MOST_WEIGHT" 99) rfl)
  obtain ⟨t3, g_MOST_NODES⟩ := He.int_ok X G (c.fact 73 (f := .int "MOST_NODES" 16) rfl)
  obtain ⟨t4, g_MOST_RULES⟩ := He.int_ok X G (c.fact 74 (f := .int "MOST_RULES" 60) rfl)
  have DC : DkM K "Claim" "__init__" "Claim.__init__" s_Claim__init [.non, .non] [("weight", .int 1)] := ⟨c.def_ 49 (d := mkM "Claim" "__init__" "Claim.__init__" s_Claim__init [.non, .non] [("weight", .int 1)]) rfl⟩
  have DP : DkM K "Claim" "parts" "Claim.parts" s_Claim_parts [] [] := ⟨c.def_ 50 (d := mkM "Claim" "parts" "Claim.parts" s_Claim_parts [] []) rfl⟩
  have DF : DkM K "Frame" "__init__" "Frame.__init__" s_Frame__init [] [] := ⟨c.def_ 51 (d := mkM "Frame" "__init__" "Frame.__init__" s_Frame__init [] []) rfl⟩
  have h_Claim := ok_Claim (P := P) (w := w) (base := base) DC (He.mkr_ok (c.fact 77 (f := .mkr "Claim") rfl)) C (He.glo_ok X G (c.fact 49 (f := .glo "Claim") rfl)) g_LAST_NODE g_MOST_WEIGHT
  have h_parts := ok_parts (P := P) (w := w) (mg := mg) (base := base) DP (He.meth_ok (c.fact 79 (f := .meth "Claim" "parts") rfl)) C
  have h_negated := ok_negated (P := P) (w := w) (base := base) D_negated
  have h_raising := ok_raising (P := P) (w := w) (base := base) D_raising
  have h_change_of := ok_change_of (P := P) (w := w) (base := base) D_change_of h_raising h_negated
  have h_lesser := ok_lesser (P := P) (w := w) (base := base) D_lesser fr
  have h_left_arcs := ok_left_arcs (P := P) (w := w) (base := base) D_left_arcs fr h_change_of
  have h_send := ok_send (P := P) (w := w) (base := base) D_send
  have h_improve := ok_improve (P := P) (w := w) (base := base) D_improve
  have h_walk_of := ok_walk_of (P := P) (w := w) (base := base) D_walk_of fr h_improve
  have h_way_left := ok_way_left (P := P) (w := w) (base := base) D_way_left h_walk_of h_left_arcs h_lesser h_change_of
  have h_push_row := ok_push_row (P := P) (w := w) (base := base) D_push_row fr h_way_left h_send h_lesser h_change_of
  have h_pushed := ok_pushed (P := P) (w := w) (base := base) D_pushed h_push_row
  have h_pass_over := ok_pass_over (P := P) (w := w) (base := base) D_pass_over fr
  have h_closure := ok_closure (P := P) (w := w) (base := base) D_closure fr h_pass_over
  have h_in_table := ok_in_table (P := P) (w := w) (base := base) D_in_table fr
  have h_bound_arcs := ok_bound_arcs (P := P) (w := w) (base := base) D_bound_arcs fr
  have h_as_tuples := ok_as_tuples (P := P) (w := w) (base := base) D_as_tuples fr
  have h_rule_stands := ok_rule_stands (P := P) (w := w) (base := base) D_rule_stands
  have h_rule_rows := ok_rule_rows (P := P) (w := w) (base := base) D_rule_rows
  have h_rule_arcs := ok_rule_arcs (P := P) (w := w) (base := base) D_rule_arcs fr h_bound_arcs
  have h_all_connected := ok_all_connected (P := P) (w := w) (base := base) D_all_connected fr
  have h_claim_rows := ok_claim_rows (P := P) (w := w) (base := base) D_claim_rows C
  have h__law_claims := ok__law_claims (P := P) (w := w) (base := base) D__law_claims h_Claim
  have h_Frame := ok_Frame (P := P) (w := w) (base := base) DF (He.mkr_ok (c.fact 78 (f := .mkr "Frame") rfl)) CF (He.glo_ok X G (c.fact 50 (f := .glo "Frame") rfl)) g_MOST_NODES g_MOST_RULES fr h_as_tuples h_rule_stands h_all_connected h_rule_arcs h_closure
  have h_check_nodes := ok_check_nodes (P := P) (w := w) (base := base) D_check_nodes fr C h_NoSuchNode
  have h_cheapest_table := ok_cheapest_table (P := P) (w := w) (base := base) D_cheapest_table CF h_check_nodes h_rule_rows h_claim_rows h_pushed h_left_arcs h_closure
  have h__law_whole := ok__law_whole (P := P) (w := w) (base := base) D__law_whole fr
  have hN__law_whole := okN__law_whole (P := P) (w := w) (base := base) D__law_whole fr
  have h__law_wholes := ok__law_wholes (P := P) (w := w) (base := base) D__law_wholes fr h__law_whole
  have h__law_lists := ok__law_lists (P := P) (w := w) (base := base) D__law_lists fr h__law_wholes
  have h__law_refused := ok__law_refused (P := P) (w := w) (base := base) D__law_refused fr XF h_cheapest_table hN__law_whole
  have h__law_source := ok__law_source (P := P) (w := w) (base := base) D__law_source fr
  have h__law_draw := ok__law_draw (P := P) (w := w) (base := base) D__law_draw fr
  have h__law_between := ok__law_between (P := P) (w := w) (base := base) D__law_between h__law_draw
  have h__law_rule := ok__law_rule (P := P) (w := w) (base := base) D__law_rule h__law_draw
  have h__law_rules := ok__law_rules (P := P) (w := w) (base := base) D__law_rules fr h__law_draw h__law_between h__law_rule
  have h__law_moved := ok__law_moved (P := P) (w := w) (base := base) D__law_moved
  have h__law_tells := ok__law_tells (P := P) (w := w) (base := base) D__law_tells fr h__law_draw h__law_between
  have h__law_wider := ok__law_wider (P := P) (w := w) (base := base) D__law_wider fr h__law_draw
  have h__law_scene := ok__law_scene (P := P) (w := w) (base := base) D__law_scene fr h__law_draw h__law_between h__law_source h__law_rules h__law_wider h__law_tells h__law_moved
  have h__law_keeps := ok__law_keeps (P := P) (w := w) (base := base) D__law_keeps fr
  have h__law_excess := ok__law_excess (P := P) (w := w) (base := base) D__law_excess
  have h__law_growth := ok__law_growth (P := P) (w := w) (base := base) D__law_growth fr h__law_excess
  have h__law_arcs := ok__law_arcs (P := P) (w := w) (base := base) D__law_arcs fr
  have h__law_table := ok__law_table (P := P) (w := w) (base := base) D__law_table fr
  have h__law_all_worlds := ok__law_all_worlds (P := P) (w := w) (base := base) D__law_all_worlds fr h__law_table h__law_arcs h__law_keeps
  have h__law_strange := ok__law_strange (P := P) (w := w) (base := base) D__law_strange fr h__law_draw h__law_between
  have h__law_cheapest := ok__law_cheapest (P := P) (w := w) (base := base) D__law_cheapest fr h__law_growth
  have h__law_widest := ok__law_widest (P := P) (w := w) (base := base) D__law_widest fr
  have h__law_outside := ok__law_outside (P := P) (w := w) (base := base) D__law_outside fr h_in_table
  have h__law_right := ok__law_right (P := P) (w := w) (base := base) D__law_right fr h_in_table h__law_widest h__law_lists
  exact ok_law F fr C h__law_source h__law_scene h__law_all_worlds h_Frame h__law_claims h_cheapest_table h__law_cheapest h__law_right h__law_outside h__law_draw h_parts h__law_strange h__law_refused
end
end Kt
open PySem PySem.W PySem.Calls PyProof.Rows
theorem PySem.Challenge.cw_counthall_k66_whole_cheapest_table_holds : PySem.Challenge.rw_counthall_k66_whole_cheapest_table.Holds := by
  w_on; o_law
  refine HandSHeadRun.head_any (r := OpenLaw.row PySem.Challenge.rw_counthall_k66_whole_cheapest_table) (q := Kt.qvY) (H := Kt.hkY) (ob := Kt.obY) (M := 4000) (loose := Kt.nmY) (d := HandSHeadRun.topDef (OpenLaw.row PySem.Challenge.rw_counthall_k66_whole_cheapest_table).prog 69) (kwd := []) Kt.obY_eq
    (by kernel_rfl) (fun s => by kernel_rfl) Kt.runY (by kernel_rfl) (by kernel_rfl) (by kernel_rfl) (by rfl) (by first | assumption | decide +kernel) (by decide +kernel) ⟨rfl, rfl, rfl, rfl, rfl, by decide +kernel⟩ ?hw ?hc
  case hw => w_witness2
  case hc =>
    refine L2.walk_ofE (l := PySem.Challenge.rw_counthall_k66_whole_cheapest_table) (n := 63) (k := 9) (x := "_law_script") (CX := L2.CX0) rfl (by decide) (by kernel_rfl) ⟨rfl, by decide, by decide⟩ ?F (fun _ _ _ _ z => z)
    intro w mg fa h Y G hmg0
    obtain ⟨K, KX, s⟩ := Y
    have hmg : mg ("law" : PySem.Str) = some (.ref fa) := by
      have e : (HandSHeadRun.topDef (OpenLaw.row PySem.Challenge.rw_counthall_k66_whole_cheapest_table).prog 69).name = ("law" : PySem.Str) := by kernel_rfl
      rw [← e]
      exact hmg0
    obtain ⟨fd, F⟩ := s.1.def_ 48 (d := Kt.mkD "law" Kt.s_law) rfl
    have e := hmg.symm.trans (He.glo_ok KX G (s.1.fact 48 (f := .glo "law") rfl))
    cases e
    have b := L2.FunD.bindsA (ps := ["_law_script"]) F fun _ _ _ _ _ _ us hl => match us, hl with | [_], _ => rfl
    exact ⟨K, fd, Kt.spLaw K, KX, fun s v => b s [v] rfl, fun H a ns hl _ hS => ⟨a, ns, rfl, hS, fun _ => rfl⟩, fun base KB GB => Kt.all_law (by kernel_rfl) (by kernel_rfl) s KB GB F⟩
#print axioms PySem.Challenge.cw_counthall_k66_whole_cheapest_table_holds

