import PyProof.Rows.All
import Wide.All
import OpenK.AllK
import Wide.FinOn
import KE.KStateDown
import Lean
import HandS.Base
import HandS.Call
import HandS.Ends
import HandS.More
import HandS.Words
import HandS.WordsExc
import HandS.Defaults
import HandS.Head0
import HandS.Head1
import HandS.Head2
import HandS.HeadEnd
import HandS.HeadHook1
import HandS.HeadHook2
import HandS.HeadNt
import HandS.GenOver
import Open.Head
import HandS.ForMost
import HandS.MakeKwOnly
import HandS.GenYield
import HandS.GenList
import KE.GoesEnum
import HandS.SetBool
import HandS.DictComp
import HandS.Property
import HandS.IsInst
import HandS.Dict
import HandS.Evl
import HandS.Wide
import HandS.WideMore
import HandS.List
import HandS.Text
import HandS.Comp
import HandS.OwnEq
import PyProof.InstNe
import KE.KSuper
import HandS.TupAny
import PySem.Challenge.RW_turndeal_k78_whole_tallies_over_whole_ro
set_option Elab.async false
set_option linter.all false
set_option maxRecDepth 100000
set_option maxHeartbeats 0
/-! Whatever runs leaves the suspended generators as they are, if it runs where they cannot be resumed. -/
namespace Gk
open PySem
open Sem (wp)

/-- a continuation that goes nowhere -/
def stk : Resume → Sem PySem.Fin := fun _ => .unsupported "asleep"
/-- no frame of a generator that runs below -/
def NoG (fs : List Frame) : Prop := ∀ F ∈ fs, ∃ k h g l c p kp, F = Frame.ret k h g l c p kp
theorem NoG.split : ∀ {fs : List Frame}, NoG fs → splitAtGen fs = none
  | [], _ => rfl
  | F :: fs, h => by
    obtain ⟨k, hh, g, l, c, p, kp, rfl⟩ := h F List.mem_cons_self
    show (splitAtGen fs).map _ = none
    rw [NoG.split (fs := fs) fun F hF => h F (List.mem_cons_of_mem _ hF)]
    rfl
theorem NoG.nil : NoG [] := fun F h => by cases h
theorem NoG.tail {F : Frame} {fs : List Frame} (h : NoG (F :: fs)) : NoG fs := fun G hG => h G (List.mem_cons_of_mem _ hG)
theorem NoG.app {a b : List Frame} (h : NoG a) (k : NoG b) : NoG (a ++ b) := fun F hF => (List.mem_append.mp hF).elim (h F) (k F)
theorem NoG.one {k h g l c p kp} : NoG [Frame.ret k h g l c p kp] := fun F hF => by
  rw [List.mem_singleton.mp hF]; exact ⟨k, h, g, l, c, p, kp, rfl⟩
def NoGE : End → Prop
  | .ret _ => True
  | .susp _ _ _ _ _ _ fs => NoG fs

/-- G: as it is; Gh: as it runs (the suspended ones of G0 are stuck) -/
structure ZG (G0 G Gh : Array GenState) : Prop where
  sz : G.size = Gh.size
  sz0 : G0.size ≤ G.size
  slp : ∀ (i : Nat) k l c p fs cl, G0[i]? = some (.suspended k l c p fs cl) → G[i]? = some (.suspended k l c p fs cl) ∧ Gh[i]? = some (.suspended stk l c p fs cl)
  oth : ∀ (i : Nat), (∀ k l c p fs cl, G0[i]? ≠ some (.suspended k l c p fs cl)) → G[i]? = Gh[i]? ∧ ∀ k l c p fs cl, i < G.size → G0.size ≤ i ∨ True → G[i]? = some (.suspended k l c p fs cl) → NoG fs
def Zz (G0 : Array GenState) (s sh : Shared) : Prop := ∃ G, s = { sh with gens := G } ∧ ZG G0 G sh.gens

theorem ZG.cases {G0 G Gh : Array GenState} (z : ZG G0 G Gh) {i : Nat} {x : GenState} (h : Gh[i]? = some x) :
    (∃ k l c p fs cl, G0[i]? = some (.suspended k l c p fs cl) ∧ G[i]? = some (.suspended k l c p fs cl) ∧ x = .suspended stk l c p fs cl) ∨
    ((∀ k l c p fs cl, G0[i]? ≠ some (.suspended k l c p fs cl)) ∧ G[i]? = some x ∧ ∀ k l c p fs cl, x = .suspended k l c p fs cl → NoG fs) := by
  by_cases e : ∃ k l c p fs cl, G0[i]? = some (.suspended k l c p fs cl)
  · obtain ⟨k, l, c, p, fs, cl, e⟩ := e
    obtain ⟨h1, h2⟩ := z.slp i k l c p fs cl e
    rw [h] at h2
    exact .inl ⟨k, l, c, p, fs, cl, e, h1, Option.some.inj h2⟩
  · have n : ∀ k l c p fs cl, G0[i]? ≠ some (.suspended k l c p fs cl) := fun k l c p fs cl q => e ⟨k, l, c, p, fs, cl, q⟩
    obtain ⟨h1, h2⟩ := z.oth i n
    rw [h] at h1
    refine .inr ⟨n, h1, fun k l c p fs cl q => h2 k l c p fs cl ?_ (.inr trivial) (by rw [h1, q])⟩
    exact (Array.getElem?_eq_some_iff.mp h1).1
theorem ZG.set {G0 G Gh : Array GenState} (z : ZG G0 G Gh) {g : Nat} {x : GenState} (n : ∀ k l c p fs cl, G0[g]? ≠ some (.suspended k l c p fs cl)) (hx : ∀ k l c p fs cl, x = .suspended k l c p fs cl → NoG fs) :
    ZG G0 (G.setIfInBounds g x) (Gh.setIfInBounds g x) where
  sz := by simp [z.sz]
  sz0 := by simpa using z.sz0
  slp := fun i k l c p fs cl e => by
    have hi : g ≠ i := fun q => by subst q; exact n k l c p fs cl e
    rw [Array.getElem?_setIfInBounds_ne hi, Array.getElem?_setIfInBounds_ne hi]
    exact z.slp i k l c p fs cl e
  oth := fun i e => by
    obtain ⟨h1, h2⟩ := z.oth i e
    by_cases hi : g = i
    · subst hi
      by_cases hb : g < G.size
      · have hb2 : g < Gh.size := by rw [← z.sz]; exact hb
        refine ⟨by simp [hb, hb2], fun k l c p fs cl _ _ q => ?_⟩
        simp [hb] at q
        exact hx k l c p fs cl q
      · have hb2 : ¬ g < Gh.size := by rw [← z.sz]; exact hb
        refine ⟨by simp [hb, hb2], fun k l c p fs cl q => ?_⟩
        exact absurd (by simpa using q) hb
    · rw [Array.getElem?_setIfInBounds_ne hi, Array.getElem?_setIfInBounds_ne hi]
      exact ⟨h1, fun k l c p fs cl q1 q2 q3 => h2 k l c p fs cl (by simpa using q1) q2 q3⟩
theorem ZG.push {G0 G Gh : Array GenState} (z : ZG G0 G Gh) (c : Code) : ZG G0 (G.push (.fresh c)) (Gh.push (.fresh c)) where
  sz := by simp [z.sz]
  sz0 := by have := z.sz0; simp; omega
  slp := fun i k l c' p fs cl e => by
    obtain ⟨h1, h2⟩ := z.slp i k l c' p fs cl e
    have b1 := (Array.getElem?_eq_some_iff.mp h1).1
    have b2 := (Array.getElem?_eq_some_iff.mp h2).1
    rw [Array.getElem?_push_lt b1, Array.getElem?_push_lt b2]
    exact ⟨by rw [← h1, Array.getElem?_eq_getElem b1], by rw [← h2, Array.getElem?_eq_getElem b2]⟩
  oth := fun i e => by
    obtain ⟨h1, h2⟩ := z.oth i e
    rcases Nat.lt_trichotomy i G.size with hi | hi | hi
    · have hi2 : i < Gh.size := by rw [← z.sz]; exact hi
      have q1 : (G.push (GenState.fresh c))[i]? = G[i]? := by rw [Array.getElem?_push_lt hi, Array.getElem?_eq_getElem hi]
      have q2 : (Gh.push (GenState.fresh c))[i]? = Gh[i]? := by rw [Array.getElem?_push_lt hi2, Array.getElem?_eq_getElem hi2]
      rw [q1, q2]
      exact ⟨h1, fun k l c p fs cl _ a b => h2 k l c p fs cl hi a b⟩
    · have hi2 : i = Gh.size := by rw [← z.sz]; exact hi
      have q1 : (G.push (GenState.fresh c))[i]? = some (.fresh c) := by rw [hi]; simp
      have q2 : (Gh.push (GenState.fresh c))[i]? = some (.fresh c) := by rw [hi2]; simp
      rw [q1, q2]
      exact ⟨rfl, fun k l c p fs cl _ _ b => by cases b⟩
    · have b1 : (G.push (GenState.fresh c)).size ≤ i := by simp; omega
      have b2 : (Gh.push (GenState.fresh c)).size ≤ i := by have := z.sz; simp; omega
      rw [Array.getElem?_eq_none b1, Array.getElem?_eq_none b2]
      exact ⟨rfl, fun k l c p fs cl q => by omega⟩

theorem Zz.setGen {G0 : Array GenState} {s sh : Shared} (z : Zz G0 s sh) {g : Nat} {x : GenState} (n : ∀ k l c p fs cl, G0[g]? ≠ some (.suspended k l c p fs cl)) (hx : ∀ k l c p fs cl, x = .suspended k l c p fs cl → NoG fs) :
    Zz G0 (s.setGen g x) (sh.setGen g x) := by
  obtain ⟨G, rfl, z⟩ := z
  exact ⟨_, rfl, z.set n hx⟩
theorem Zz.heap {G0 : Array GenState} {s sh : Shared} (z : Zz G0 s sh) : s.heap = sh.heap := by obtain ⟨G, rfl, _⟩ := z; rfl
theorem Zz.toks {G0 : Array GenState} {s sh : Shared} (z : Zz G0 s sh) : s.toks = sh.toks := by obtain ⟨G, rfl, _⟩ := z; rfl
theorem Zz.drawn {G0 : Array GenState} {s sh : Shared} (z : Zz G0 s sh) : s.drawn = sh.drawn := by obtain ⟨G, rfl, _⟩ := z; rfl
theorem Zz.os {G0 : Array GenState} {s sh : Shared} (z : Zz G0 s sh) : s.os = sh.os := by obtain ⟨G, rfl, _⟩ := z; rfl
theorem Zz.zg {G0 : Array GenState} {s sh : Shared} (z : Zz G0 s sh) : ZG G0 s.gens sh.gens := by obtain ⟨G, rfl, z⟩ := z; exact z

theorem noGE_state {e : End} (h : NoGE e) : ∀ k l c p fs cl, e.genState = .suspended k l c p fs cl → NoG fs := fun k l c p fs cl q => by
  cases e with
  | ret _ => cases q
  | susp v g0 l0 k0 c0 p0 fs0 => cases q; exact h
theorem noRuns {M : Model} {G : Ctx} {p : Pos} {w : String} {fs : List Frame} {s : Shared} {e : End} {s' : Shared} (h : Runs M G p (.unsupported w) fs s e s') : False := by
  generalize ht : (Sem.unsupported w : Sem PySem.Fin) = t at h
  induction h <;> first | (cases ht; done) | (rename_i ih1 ih2; exact ih1 ht) | (rename_i ih1; exact ih1 ht) | skip

theorem runs_zz {M : Model} {Ga : Ctx} {p : Pos} {t : Sem PySem.Fin} {fs : List Frame} {sh sh' : Shared} {e : End} (h : Runs M Ga p t fs sh e sh') {G0 : Array GenState} :
    NoG fs → ∀ s, Zz G0 s sh → ∃ s', Zz G0 s' sh' ∧ Runs M Ga p t fs s e s' ∧ NoGE e := by
  induction h with
  | done => intro _ s z; exact ⟨s, z, .done, trivial⟩
  | raise => intro _ s z; exact ⟨s, z, .raise, trivial⟩
  | again hq _ ih => intro hn s z; obtain ⟨s', z', r, ne⟩ := ih hn s z; exact ⟨s', z', .again hq r, ne⟩
  | rule _ ih => intro hn s z; obtain ⟨s', z', r, ne⟩ := ih hn s z; exact ⟨s', z', .rule r, ne⟩
  | «at» _ ih => intro hn s z; obtain ⟨s', z', r, ne⟩ := ih hn s z; exact ⟨s', z', .at r, ne⟩
  | load ho _ ih => intro hn s z; obtain ⟨s', z', r, ne⟩ := ih hn s z; exact ⟨s', z', .load (by rw [z.heap]; exact ho) r, ne⟩
  | update ho _ ih =>
    intro hn s z
    obtain ⟨G, rfl, zg⟩ := z
    obtain ⟨s', z', r, ne⟩ := ih hn _ ⟨_, rfl, zg⟩
    exact ⟨s', z', .update ho r, ne⟩
  | loadIfAlive _ ih =>
    intro hn s z
    obtain ⟨G, rfl, zg⟩ := z
    obtain ⟨s', z', r, ne⟩ := ih hn _ ⟨_, rfl, zg⟩
    exact ⟨s', z', .loadIfAlive r, ne⟩
  | point _ ih => intro hn s z; obtain ⟨s', z', r, ne⟩ := ih hn s z; exact ⟨s', z', .point r, ne⟩
  | alloc _ ih =>
    intro hn s z
    obtain ⟨G, rfl, zg⟩ := z
    obtain ⟨s', z', r, ne⟩ := ih hn _ ⟨_, rfl, zg⟩
    exact ⟨s', z', .alloc r, ne⟩
  | fresh _ ih =>
    intro hn s z
    obtain ⟨G, rfl, zg⟩ := z
    obtain ⟨s', z', r, ne⟩ := ih hn _ ⟨_, rfl, zg⟩
    exact ⟨s', z', .fresh r, ne⟩
  | ask _ ih => intro hn s z; obtain ⟨s', z', r, ne⟩ := ih hn s z; exact ⟨s', z', .ask r, ne⟩
  | choose h0 _ ih =>
    intro hn s z
    obtain ⟨G, rfl, zg⟩ := z
    obtain ⟨s', z', r, ne⟩ := ih hn _ ⟨_, rfl, zg⟩
    exact ⟨s', z', .choose h0 r, ne⟩
  | os _ ih =>
    intro hn s z
    obtain ⟨G, rfl, zg⟩ := z
    obtain ⟨s', z', r, ne⟩ := ih hn _ ⟨_, rfl, zg⟩
    exact ⟨s', z', .os r, ne⟩
  | handled _ ih => intro hn s z; obtain ⟨s', z', r, ne⟩ := ih hn s z; exact ⟨s', z', .handled r, ne⟩
  | genState hg _ ih =>
    intro hn s z
    obtain ⟨s', z', r, ne⟩ := ih hn s z
    rcases z.zg.cases hg with ⟨k, l, c, p, fs, cl, _, h1, rfl⟩ | ⟨_, h1, _⟩
    · exact ⟨s', z', .genState h1 r, ne⟩
    · exact ⟨s', z', .genState h1 r, ne⟩
  | stack _ ih => intro hn s z; obtain ⟨s', z', r, ne⟩ := ih hn s z; exact ⟨s', z', .stack r, ne⟩
  | thread _ ih => intro hn s z; obtain ⟨s', z', r, ne⟩ := ih hn s z; exact ⟨s', z', .thread r, ne⟩
  | newGen _ ih =>
    intro hn s z
    obtain ⟨G, rfl, zg⟩ := z
    obtain ⟨s', z', r, ne⟩ := ih hn _ ⟨_, rfl, zg.push _⟩
    rw [← zg.sz] at r
    exact ⟨s', z', .newGen r, ne⟩
  | call _ _ ih1 ih2 =>
    intro hn s z
    obtain ⟨s1, z1, r1, _⟩ := ih1 .nil s z
    obtain ⟨s2, z2, r2, ne⟩ := ih2 hn s1 z1
    exact ⟨s2, z2, .call r1 r2, ne⟩
  | callSusp _ ih =>
    intro hn s z
    obtain ⟨s1, z1, r1, ne⟩ := ih .nil s z
    exact ⟨s1, z1, .callSusp r1, NoG.app ne .one⟩
  | yield => intro hn s z; exact ⟨s, z, .yield, .nil⟩
  | resumeFresh hg _ hq _ ih1 ih2 =>
    intro hn s z
    rcases z.zg.cases hg with ⟨k, l, c, p, fs, cl, _, h1, e⟩ | ⟨n, h1, _⟩
    · cases e
    · obtain ⟨s1, z1, r1, ne1⟩ := ih1 .nil _ (z.setGen n (x := .running) fun _ _ _ _ _ _ e => by cases e)
      obtain ⟨s2, z2, r2, ne⟩ := ih2 hn _ (z1.setGen n (noGE_state ne1))
      exact ⟨s2, z2, .resumeFresh h1 r1 hq r2, ne⟩
  | resumeSuspended hg h2 hq _ ih1 ih2 =>
    intro hn s z
    rcases z.zg.cases hg with ⟨k, l, c, p, fs, cl, _, h1, e⟩ | ⟨n, h1, hf⟩
    · cases e
      exact (noRuns h2).elim
    · obtain ⟨s1, z1, r1, ne1⟩ := ih1 (hf _ _ _ _ _ _ rfl) _ (z.setGen n (x := .running) fun _ _ _ _ _ _ e => by cases e)
      obtain ⟨s2, z2, r2, ne⟩ := ih2 hn _ (z1.setGen n (noGE_state ne1))
      exact ⟨s2, z2, .resumeSuspended h1 r1 hq r2, ne⟩
  | resumeJustStarted hg hv _ ih =>
    intro hn s z
    rcases z.zg.cases hg with ⟨k, l, c, p, fs, cl, _, h1, e⟩ | ⟨n, h1, _⟩
    · cases e
    · obtain ⟨s', z', r, ne⟩ := ih hn s z
      exact ⟨s', z', .resumeJustStarted h1 hv r, ne⟩
  | resumeThrowFresh hg _ ih =>
    intro hn s z
    rcases z.zg.cases hg with ⟨k, l, c, p, fs, cl, _, h1, e⟩ | ⟨n, h1, _⟩
    · cases e
    · obtain ⟨s', z', r, ne⟩ := ih hn _ (z.setGen n (x := .finished) fun _ _ _ _ _ _ e => by cases e)
      exact ⟨s', z', .resumeThrowFresh h1 r, ne⟩
  | resumeRunning hg _ ih =>
    intro hn s z
    rcases z.zg.cases hg with ⟨k, l, c, p, fs, cl, _, h1, e⟩ | ⟨n, h1, _⟩
    · cases e
    · obtain ⟨s', z', r, ne⟩ := ih hn s z
      exact ⟨s', z', .resumeRunning h1 r, ne⟩
  | resumeFinished hg _ ih =>
    intro hn s z
    rcases z.zg.cases hg with ⟨k, l, c, p, fs, cl, _, h1, e⟩ | ⟨n, h1, _⟩
    · cases e
    · obtain ⟨s', z', r, ne⟩ := ih hn s z
      exact ⟨s', z', .resumeFinished h1 r, ne⟩
  | segRet _ _ ih1 ih2 =>
    intro hn s z
    obtain ⟨s1, z1, r1, _⟩ := ih1 .nil s z
    obtain ⟨s2, z2, r2, ne⟩ := ih2 hn.tail s1 z1
    exact ⟨s2, z2, .segRet r1 r2, ne⟩
  | segGen _ _ _ _ =>
    intro hn s z
    obtain ⟨_, _, _, _, _, _, _, e⟩ := hn _ List.mem_cons_self
    cases e
  | segSuspOut hs _ ih =>
    intro hn s z
    obtain ⟨s1, z1, r1, ne⟩ := ih .nil s z
    exact ⟨s1, z1, .segSuspOut hs r1, NoG.app ne hn⟩
  | segSuspGen hs _ _ _ _ _ =>
    intro hn s z
    rw [hn.split] at hs
    cases hs

theorem wakes_zz {M : Model} {Ga : Ctx} {p : Pos} {g : Nat} {r : Resume} {sh sh' s : Shared} {res : GenResult} {G0 : Array GenState} (z : Zz G0 s sh) (h : Wakes M Ga p g r sh res sh') : ∃ s', Zz G0 s' sh' ∧ Wakes M Ga p g r s res s' := by
  unfold Wakes at h
  cases hg : sh.gens[g]? with
  | none => rw [hg] at h; exact h.elim
  | some x =>
    rw [hg] at h
    rcases z.zg.cases hg with ⟨k, l, c, p, fs, cl, _, h1, rfl⟩ | ⟨n, h1, hf⟩
    · obtain ⟨e1, s1, hr, _⟩ := h
      exact (noRuns hr).elim
    · cases x with
      | fresh c =>
        cases r with
        | send v =>
          cases v with
          | none =>
            obtain ⟨e1, s1, hr, hq, rfl, rfl⟩ := h
            obtain ⟨s2, z2, r2, ne⟩ := runs_zz hr .nil _ (z.setGen n (x := .running) fun _ _ _ _ _ _ e => by cases e)
            refine ⟨s2.setGen g e1.genState, z2.setGen n fun k l c p fs cl e => ?_, by unfold Wakes; rw [h1]; exact ⟨e1, s2, r2, hq, rfl, rfl⟩⟩
            cases e1 with
            | ret _ => cases e
            | susp v g0 l0 k0 c0 p0 fs0 => cases e; exact ne
          | _ =>
            obtain ⟨rfl, rfl⟩ := h
            exact ⟨s, z, by unfold Wakes; rw [h1]; exact ⟨rfl, rfl⟩⟩
        | throw v =>
          obtain ⟨rfl, rfl⟩ := h
          exact ⟨_, z.setGen n (x := .finished) (fun _ _ _ _ _ _ e => by cases e), by unfold Wakes; rw [h1]; exact ⟨rfl, rfl⟩⟩
      | suspended k0 l0 c0 p0 fs0 cl0 =>
        obtain ⟨e1, s1, hr, hq, rfl, rfl⟩ := h
        obtain ⟨s2, z2, r2, ne⟩ := runs_zz hr (hf _ _ _ _ _ _ rfl) _ (z.setGen n (x := .running) fun _ _ _ _ _ _ e => by cases e)
        refine ⟨s2.setGen g e1.genState, z2.setGen n fun k l c p fs cl e => ?_, by unfold Wakes; rw [h1]; exact ⟨e1, s2, r2, hq, rfl, rfl⟩⟩
        cases e1 with
        | ret _ => cases e
        | susp v g0 l0 k0 c0 p0 fs0 => cases e; exact ne
      | running =>
        obtain ⟨rfl, rfl⟩ := h
        exact ⟨s, z, by unfold Wakes; rw [h1]; exact ⟨rfl, rfl⟩⟩
      | finished =>
        obtain ⟨rfl, rfl⟩ := h
        exact ⟨s, z, by unfold Wakes; rw [h1]; exact ⟨rfl, rfl⟩⟩

theorem wp_zz {α : Type} (M : Model) (Ga : Ctx) (G0 : Array GenState) (t : Sem α) : ∀ (Q : α → Pos → Shared → Prop) (E : Value → Pos → Shared → Prop) (p : Pos) (s sh : Shared), Zz G0 s sh → wp M Ga t Q E p sh →
    wp M Ga t (fun a p' s' => ∃ sh', Zz G0 s' sh' ∧ Q a p' sh') (fun e p' s' => ∃ sh', Zz G0 s' sh' ∧ E e p' sh') p s := by
  induction t with
  | pure a => intro Q E p s sh z h; exact ⟨sh, z, h⟩
  | raise e => intro Q E p s sh z h; exact ⟨sh, z, h⟩
  | unsupported _ => intro Q E p s sh _ h; exact h
  | finish _ => intro Q E p s sh _ h; exact h
  | rule _ k ih => intro Q E p s sh z h; exact ih () Q E p s sh z h
  | «at» p' k ih => intro Q E p s sh z h; exact ih () Q E p' s sh z h
  | load a _ k ih => intro Q E p s sh z h; obtain ⟨o, ho, h⟩ := h; exact ⟨o, by rw [z.heap]; exact ho, ih o Q E p s sh z h⟩
  | update a _ f k ih =>
    intro Q E p s sh z h
    obtain ⟨G, rfl, zg⟩ := z
    exact ⟨h.1, ih () Q E p _ { sh with heap := sh.heap.update a f } ⟨G, rfl, zg⟩ h.2⟩
  | loadIfAlive a k ih =>
    intro Q E p s sh z h
    obtain ⟨G, rfl, zg⟩ := z
    exact ih _ Q E p _ sh ⟨G, rfl, zg⟩ h
  | point _ k ih => intro Q E p s sh z h; exact ih () Q E p s sh z h
  | register _ _ => intro Q E p s sh _ h; exact h
  | alloc o k ih =>
    intro Q E p s sh z h
    obtain ⟨G, rfl, zg⟩ := z
    exact ih _ Q E p _ { sh with heap := sh.heap.push o } ⟨G, rfl, zg⟩ h
  | fresh k ih =>
    intro Q E p s sh z h
    obtain ⟨G, rfl, zg⟩ := z
    exact ih _ Q E p _ { sh with toks := sh.toks + 1 } ⟨G, rfl, zg⟩ h
  | ask k ih => intro Q E p s sh z h; exact ih _ Q E p s sh z h
  | choose src m k ih =>
    intro Q E p s sh z h
    obtain ⟨G, rfl, zg⟩ := z
    exact ⟨h.1, ih _ Q E p _ { sh with drawn := sh.drawn.bump src } ⟨G, rfl, zg⟩ h.2⟩
  | os q _ k ih =>
    intro Q E p s sh z h
    obtain ⟨G, rfl, zg⟩ := z
    exact ih _ Q E p _ { sh with os := (Os.step sh.os q).1 } ⟨G, rfl, zg⟩ h
  | call c hd _ _ k ih =>
    intro Q E p s sh z h
    obtain ⟨r, s', hr, h⟩ := h
    obtain ⟨s1, z1, r1, _⟩ := runs_zz hr .nil s z
    exact ⟨r, s1, r1, ih r Q E p s1 s' z1 h⟩
  | handled own k ih => intro Q E p s sh z h; exact ih _ Q E p s sh z h
  | genState g k ih =>
    intro Q E p s sh z h
    obtain ⟨st, hs, h⟩ := h
    rcases z.zg.cases hs with ⟨k, l, c, p, fs, cl, _, h1, rfl⟩ | ⟨_, h1, _⟩
    · exact ⟨_, h1, ih _ Q E _ s sh z h⟩
    · exact ⟨_, h1, ih _ Q E _ s sh z h⟩
  | newGen c k ih =>
    intro Q E p s sh z h
    obtain ⟨G, rfl, zg⟩ := z
    have := ih _ Q E p { sh with gens := G.push (.fresh c) } { sh with gens := sh.gens.push (.fresh c) } ⟨_, rfl, zg.push c⟩ h
    rw [← zg.sz] at this
    exact this
  | resume g r _ k ih =>
    intro Q E p s sh z h
    obtain ⟨res, s', hw, h⟩ := h
    obtain ⟨s1, z1, w1⟩ := wakes_zz z hw
    exact ⟨res, s1, w1, ih res Q E p s1 s' z1 h⟩
  | yield _ _ _ _ => intro Q E p s sh _ h; exact h
  | stack k ih => intro Q E p s sh z h; exact ih _ Q E p s sh z h
  | fork _ _ => intro Q E p s sh _ h; exact h
  | thread k ih => intro Q E p s sh z h; exact ih _ Q E p s sh z h
  | await _ _ _ _ _ => intro Q E p s sh _ h; exact h

/-- every suspended one made stuck -/
def lull : GenState → GenState
  | .suspended _ l c p fs cl => .suspended stk l c p fs cl
  | x => x
def lulled (s : Shared) : Shared := { s with gens := s.gens.map lull }
theorem zz_lulled (s : Shared) : Zz s.gens s (lulled s) := by
  refine ⟨s.gens, rfl, ⟨by simp [lulled], Nat.le_refl _, fun i k l c p fs cl e => ⟨e, ?_⟩, fun i n => ⟨?_, fun k l c p fs cl _ _ e => absurd e (n k l c p fs cl)⟩⟩⟩
  · show (s.gens.map lull)[i]? = _
    rw [Array.getElem?_map, e]
    rfl
  · show _ = (s.gens.map lull)[i]?
    rw [Array.getElem?_map]
    cases e : s.gens[i]? with
    | none => rfl
    | some x =>
      cases x with
      | suspended k l c p fs cl => exact absurd e (n k l c p fs cl)
      | _ => rfl
theorem lull_bare (x : GenState) : (lull x).bare = x.bare := by cases x <;> rfl
theorem allBare_lulled {s : Shared} (h : PyProof.Rows.AllBare s.gens) : PyProof.Rows.AllBare (lulled s).gens := fun y hy => by
  obtain ⟨x, hx, rfl⟩ := Array.mem_map.mp (show y ∈ s.gens.map lull from hy)
  rw [lull_bare]
  exact h x hx
theorem allBare_of_zz {G0 : Array GenState} {s sh : Shared} (z : Zz G0 s sh) (h : PyProof.Rows.AllBare sh.gens) : PyProof.Rows.AllBare s.gens := fun y hy => by
  obtain ⟨i, hi, e⟩ := Array.mem_iff_getElem.mp hy
  have hi2 : i < sh.gens.size := by rw [← z.zg.sz]; exact hi
  have e1 : s.gens[i]? = some y := by rw [Array.getElem?_eq_getElem hi, e]
  have hb := h _ (Array.getElem_mem hi2)
  rcases z.zg.cases (Array.getElem?_eq_getElem hi2) with ⟨k, l, c, p, fs, cl, _, h1, e2⟩ | ⟨_, h1, _⟩
  · rw [e2] at hb
    rw [e1] at h1; cases h1
    exact hb
  · rw [e1] at h1; cases h1
    exact hb
/-- the suspended generators are as they were -/
def Asleep (s s' : Shared) : Prop := ∀ (i : Nat) k l c p fs cl, s.gens[i]? = some (.suspended k l c p fs cl) → s'.gens[i]? = some (.suspended k l c p fs cl)
theorem wpAny_asleep {α : Type} {M : Model} {A : Around} {s : Shared} {t : Sem α} {Q : α → Shared → Prop} {E : Value → Shared → Prop} (h : wpAny M A t Q E (lulled s)) :
    wpAny M A t (fun a s' => Asleep s s' ∧ ∃ sh', Zz s.gens s' sh' ∧ Q a sh') (fun e s' => Asleep s s' ∧ ∃ sh', Zz s.gens s' sh' ∧ E e sh') s := fun Ga p hG => by
  have := wp_zz M Ga s.gens t _ _ p s (lulled s) (zz_lulled s) (h Ga p hG)
  refine Sem.wp_mono M Ga t ?_ ?_ p s this
  · rintro a p' s' ⟨sh', z, q⟩
    exact ⟨fun i k l c p fs cl e => (z.zg.slp i k l c p fs cl e).1, sh', z, q⟩
  · rintro a p' s' ⟨sh', z, q⟩
    exact ⟨fun i k l c p fs cl e => (z.zg.slp i k l c p fs cl e).1, sh', z, q⟩
end Gk
/-! The machine with marks: a delegating yield is let through where its delegate is a generator; every other yield bears no list. -/
namespace Gk
open PySem
open Sem (wp)

/-- an object that bears a generator's number -/
def isG (o : Obj) : Bool := o.genNumber?.isSome
/-- the delegate of the code of «yield from» -/
def yTo : Code → Option Addr
  | .builtin id ⟨.ref a :: _, _⟩ => if id = "proto.yield_from" then some a else none
  | _ => none
def uyY (c : Code) (v : Value) (g : Bool) (k : Resume → Sem PySem.Fin) : Sem PySem.Fin :=
  if g = true then
    match yTo c with
    | some a => .load a none fun o => if isG o = true then .yield v false [.ref a] k else .unsupported "gk"
    | none => .yield v true [] k
  else .yield v false [] k
def uy (c : Code) : Sem PySem.Fin → Sem PySem.Fin
  | .pure a => .pure a
  | .raise e => .raise e
  | .unsupported w => .unsupported w
  | .finish e => .finish e
  | .rule t k => .rule t fun x => uy c (k x)
  | .at p k => .at p fun x => uy c (k x)
  | .load a p k => .load a p fun x => uy c (k x)
  | .update a p g k => .update a p g fun x => uy c (k x)
  | .alloc o k => .alloc o fun x => uy c (k x)
  | .register a k => .register a fun x => uy c (k x)
  | .loadIfAlive a k => .loadIfAlive a fun x => uy c (k x)
  | .point l k => .point l fun x => uy c (k x)
  | .fresh k => .fresh fun x => uy c (k x)
  | .ask k => .ask fun x => uy c (k x)
  | .choose s n k => .choose s n fun x => uy c (k x)
  | .os q l k => .os q l fun x => uy c (k x)
  | .call c' m g l k => .call c' m g l fun x => uy c (k x)
  | .handled o k => .handled o fun x => uy c (k x)
  | .genState g k => .genState g fun x => uy c (k x)
  | .newGen c' k => .newGen c' fun x => uy c (k x)
  | .resume g r l k => .resume g r l fun x => uy c (k x)
  | .yield v g l k => uyY c v g fun x => uy c (k x)
  | .stack k => .stack fun x => uy c (k x)
  | .fork c' k => .fork c' fun x => uy c (k x)
  | .thread k => .thread fun x => uy c (k x)
  | .await a t d l k => .await a t d l fun x => uy c (k x)

/-- the marked machine -/
def den' (c : Code) : Sem PySem.Fin := uy c (denote table c)
def Md (P : Program) (w : World) : Model := ⟨den', P, w⟩

def uyF : Frame → Frame
  | .ret k h g l c p kp => .ret (fun r => uy c (k r)) h g l c p []
  | .gen g k l c p => .gen g (fun r => uy c (k r)) l c p
def mark (c : Code) : Bool → List Value
  | true => (match yTo c with | some a => [.ref a] | none => [])
  | false => []
def uyG : GenState → GenState
  | .suspended k _ c p fs cl => .suspended (fun r => uy c (k r)) (mark c cl) c p (fs.map uyF) false
  | x => x
def uyE : End → End
  | .ret r => .ret r
  | .susp v g _ k c p fs => .susp v g [] (fun r => uy c (k r)) c p (fs.map uyF)

theorem uyF_where (f : Frame) : (uyF f).where_ = f.where_ := by cases f <;> rfl
theorem uyF_wheres (fs : List Frame) : (fs.map uyF).map Frame.where_ = fs.map Frame.where_ := by
  rw [List.map_map]; exact List.map_congr_left fun f _ => uyF_where f
theorem uyF_guarded (f : Frame) : (uyF f).guarded = f.guarded := by cases f <;> rfl
theorem uyF_any (fs : List Frame) : (fs.map uyF).any Frame.guarded = fs.any Frame.guarded := by
  induction fs with
  | nil => rfl
  | cons f fs ih => simp only [List.map_cons, List.any_cons, uyF_guarded, ih]
theorem uyF_marks (f : Frame) (x : Option Value × Option Value) : (uyF f).marks x = f.marks x := by cases f <;> rfl
theorem uyF_marksOver (fs : List Frame) (x : Option Value × Option Value) : marksOver (fs.map uyF) x = marksOver fs x := by
  induction fs with
  | nil => rfl
  | cons f fs ih =>
    show (uyF f).marks (marksOver (fs.map uyF) x) = f.marks (marksOver fs x)
    rw [ih, uyF_marks]
theorem uyF_split (fs : List Frame) : splitAtGen (fs.map uyF) = (splitAtGen fs).map fun x => (x.1.map uyF, (x.2.1.1, (fun r => uy x.2.1.2.2.1 (x.2.1.2.1 r)), x.2.1.2.2.1, x.2.1.2.2.2), x.2.2.map uyF) := by
  induction fs with
  | nil => rfl
  | cons f fs ih =>
    cases f with
    | gen g k l c p => rfl
    | ret k h g l c p kp =>
      show (splitAtGen (fs.map uyF)).map _ = ((splitAtGen fs).map _).map _
      rw [ih]
      cases splitAtGen fs with
      | none => rfl
      | some x => rfl
theorem uyF_splitNone {fs : List Frame} (h : splitAtGen fs = none) : splitAtGen (fs.map uyF) = none := by rw [uyF_split, h]; rfl
theorem uyF_top (fs : List Frame) : ∀ b, topHandled.go b (fs.map uyF) = topHandled.go b fs := by
  induction fs with
  | nil => intro b; rfl
  | cons f fs ih =>
    intro b
    cases f with
    | gen g k l c p => cases b <;> exact ih _
    | ret k h g l c p kp =>
      cases b with
      | true => exact ih true
      | false =>
        cases h with
        | none => exact ih false
        | some e =>
          show (if e == byPass then topHandled.go true (fs.map uyF) else some e) = if e == byPass then topHandled.go true fs else some e
          rw [ih]
theorem uyF_topHandled (fs : List Frame) : topHandled (fs.map uyF) = topHandled fs := uyF_top fs false
theorem uyF_over (Ga : Ctx) (fs : List Frame) : Ga.over (fs.map uyF) = Ga.over fs := by
  unfold Ctx.over
  rw [uyF_marksOver, uyF_wheres, uyF_split]
  cases splitAtGen fs with
  | none => simp only [Option.map_none, uyF_marksOver]
  | some x => simp only [Option.map_some, uyF_topHandled]
theorem uyG_status (x : GenState) : (uyG x).seen = x.seen := by
  cases x with
  | suspended k l c p fs cl =>
    show (GenStatus.suspended, some ((c, p) :: (fs.map uyF).map Frame.where_)) = (GenStatus.suspended, some ((c, p) :: fs.map Frame.where_))
    rw [uyF_wheres]
  | _ => rfl
theorem uyE_result (e : End) : (uyE e).result = e.result := by cases e <;> rfl
theorem uyE_quiet (e : End) : (uyE e).quiet = e.quiet := by
  cases e with
  | ret r => rfl
  | susp v g l k c p fs =>
    show (!(g || (fs.map uyF).any Frame.guarded)) = !(g || fs.any Frame.guarded)
    rw [uyF_any]
theorem uyE_state {e : End} (h : e.quiet = true) : (uyE e).genState = uyG e.genState := by
  cases e with
  | ret r => rfl
  | susp v g l k c p fs =>
    have h' : (!(g || fs.any Frame.guarded)) = true := h
    have hg : (g || fs.any Frame.guarded) = false := by simpa using h'
    show GenState.suspended _ [] c p (fs.map uyF) (g || (fs.map uyF).any Frame.guarded) = GenState.suspended _ (mark c (g || fs.any Frame.guarded)) c p (fs.map uyF) false
    rw [uyF_any, hg]; rfl
theorem NoG.uy {fs : List Frame} (h : NoG fs) : NoG (fs.map uyF) := fun F hF => by
  obtain ⟨f, hf, rfl⟩ := List.mem_map.mp hF
  obtain ⟨k, hh, g, l, c, p, kp, rfl⟩ := h f hf
  exact ⟨_, hh, g, l, c, p, [], rfl⟩

/-- G: the marked machine's table; Gh: the plain machine's, in which the suspended ones of G0 are stuck -/
structure ZB (G0 G Gh : Array GenState) : Prop where
  sz : G.size = Gh.size
  sz0 : G0.size ≤ G.size
  slp : ∀ (i : Nat) k l c p fs cl, G0[i]? = some (.suspended k l c p fs cl) → G[i]? = some (.suspended k l c p fs cl) ∧ Gh[i]? = some (.suspended stk l c p fs cl)
  oth : ∀ (i : Nat), (∀ k l c p fs cl, G0[i]? ≠ some (.suspended k l c p fs cl)) → ∀ x, Gh[i]? = some x → G[i]? = some (uyG x) ∧ ∀ k l c p fs cl, x = .suspended k l c p fs cl → NoG fs ∧ cl = false
def Zb (G0 : Array GenState) (s sh : Shared) : Prop := ∃ G, s = { sh with gens := G } ∧ ZB G0 G sh.gens

theorem ZB.cases {G0 G Gh : Array GenState} (z : ZB G0 G Gh) {i : Nat} {x : GenState} (h : Gh[i]? = some x) :
    (∃ k l c p fs cl, G0[i]? = some (.suspended k l c p fs cl) ∧ G[i]? = some (.suspended k l c p fs cl) ∧ x = .suspended stk l c p fs cl) ∨
    ((∀ k l c p fs cl, G0[i]? ≠ some (.suspended k l c p fs cl)) ∧ G[i]? = some (uyG x) ∧ ∀ k l c p fs cl, x = .suspended k l c p fs cl → NoG fs ∧ cl = false) := by
  by_cases e : ∃ k l c p fs cl, G0[i]? = some (.suspended k l c p fs cl)
  · obtain ⟨k, l, c, p, fs, cl, e⟩ := e
    obtain ⟨h1, h2⟩ := z.slp i k l c p fs cl e
    rw [h] at h2
    exact .inl ⟨k, l, c, p, fs, cl, e, h1, Option.some.inj h2⟩
  · have n : ∀ k l c p fs cl, G0[i]? ≠ some (.suspended k l c p fs cl) := fun k l c p fs cl q => e ⟨k, l, c, p, fs, cl, q⟩
    obtain ⟨h1, h2⟩ := z.oth i n x h
    exact .inr ⟨n, h1, h2⟩
theorem ZB.set {G0 G Gh : Array GenState} (z : ZB G0 G Gh) {g : Nat} {x : GenState} (n : ∀ k l c p fs cl, G0[g]? ≠ some (.suspended k l c p fs cl)) (hx : ∀ k l c p fs cl, x = .suspended k l c p fs cl → NoG fs ∧ cl = false) :
    ZB G0 (G.setIfInBounds g (uyG x)) (Gh.setIfInBounds g x) where
  sz := by simp [z.sz]
  sz0 := by simpa using z.sz0
  slp := fun i k l c p fs cl e => by
    have hi : g ≠ i := fun q => by subst q; exact n k l c p fs cl e
    rw [Array.getElem?_setIfInBounds_ne hi, Array.getElem?_setIfInBounds_ne hi]
    exact z.slp i k l c p fs cl e
  oth := fun i e y hy => by
    by_cases hi : g = i
    · subst hi
      by_cases hb : g < Gh.size
      · have hb2 : g < G.size := by rw [z.sz]; exact hb
        have ey : x = y := by
          have : (Gh.setIfInBounds g x)[g]? = some x := by simp [hb]
          rw [this] at hy; exact Option.some.inj hy
        subst ey
        exact ⟨by simp [hb2], hx⟩
      · have := (Array.getElem?_eq_some_iff.mp hy).1
        exact absurd (by simpa using this) hb
    · rw [Array.getElem?_setIfInBounds_ne hi] at hy ⊢
      exact z.oth i e y hy
theorem ZB.push {G0 G Gh : Array GenState} (z : ZB G0 G Gh) (c : Code) : ZB G0 (G.push (.fresh c)) (Gh.push (.fresh c)) where
  sz := by simp [z.sz]
  sz0 := by have := z.sz0; simp; omega
  slp := fun i k l c' p fs cl e => by
    obtain ⟨h1, h2⟩ := z.slp i k l c' p fs cl e
    have b1 := (Array.getElem?_eq_some_iff.mp h1).1
    have b2 := (Array.getElem?_eq_some_iff.mp h2).1
    rw [Array.getElem?_push_lt b1, Array.getElem?_push_lt b2]
    exact ⟨by rw [← h1, Array.getElem?_eq_getElem b1], by rw [← h2, Array.getElem?_eq_getElem b2]⟩
  oth := fun i e y hy => by
    rcases Nat.lt_trichotomy i Gh.size with hi | hi | hi
    · have hi2 : i < G.size := by rw [z.sz]; exact hi
      have q1 : (G.push (GenState.fresh c))[i]? = G[i]? := by rw [Array.getElem?_push_lt hi2, Array.getElem?_eq_getElem hi2]
      have q2 : (Gh.push (GenState.fresh c))[i]? = Gh[i]? := by rw [Array.getElem?_push_lt hi, Array.getElem?_eq_getElem hi]
      rw [q2] at hy
      rw [q1]
      exact z.oth i e y hy
    · have hi2 : i = G.size := by rw [z.sz]; exact hi
      have q1 : (G.push (GenState.fresh c))[i]? = some (.fresh c) := by rw [hi2]; simp
      have q2 : (Gh.push (GenState.fresh c))[i]? = some (.fresh c) := by rw [hi]; simp
      rw [q2] at hy
      cases hy
      exact ⟨q1, fun k l c p fs cl b => by cases b⟩
    · have b2 : (Gh.push (GenState.fresh c)).size ≤ i := by simp; omega
      rw [Array.getElem?_eq_none b2] at hy
      cases hy

theorem Zb.setGen {G0 : Array GenState} {s sh : Shared} (z : Zb G0 s sh) {g : Nat} {x : GenState} (n : ∀ k l c p fs cl, G0[g]? ≠ some (.suspended k l c p fs cl)) (hx : ∀ k l c p fs cl, x = .suspended k l c p fs cl → NoG fs ∧ cl = false) :
    Zb G0 (s.setGen g (uyG x)) (sh.setGen g x) := by
  obtain ⟨G, rfl, z⟩ := z
  exact ⟨_, rfl, z.set n hx⟩
theorem Zb.heap {G0 : Array GenState} {s sh : Shared} (z : Zb G0 s sh) : s.heap = sh.heap := by obtain ⟨G, rfl, _⟩ := z; rfl
theorem Zb.os {G0 : Array GenState} {s sh : Shared} (z : Zb G0 s sh) : s.os = sh.os := by obtain ⟨G, rfl, _⟩ := z; rfl
theorem Zb.zb {G0 : Array GenState} {s sh : Shared} (z : Zb G0 s sh) : ZB G0 s.gens sh.gens := by obtain ⟨G, rfl, z⟩ := z; exact z

theorem quiet_state {e : End} (h : NoGE e) (hq : e.quiet = true) : ∀ k l c p fs cl, e.genState = .suspended k l c p fs cl → NoG fs ∧ cl = false := fun k l c p fs cl q => by
  cases e with
  | ret _ => cases q
  | susp v g0 l0 k0 c0 p0 fs0 =>
    have h' : (!(g0 || fs0.any Frame.guarded)) = true := hq
    have e : GenState.suspended k0 l0 c0 p0 fs0 (g0 || fs0.any Frame.guarded) = .suspended k l c p fs cl := q
    injection e with _ _ _ _ e5 e6
    subst e5 e6
    exact ⟨h, by rw [Bool.not_eq_true'] at h'; exact h'⟩
theorem quiet_g {v : Value} {g : Bool} {l : List Value} {k : Resume → Sem PySem.Fin} {c : Code} {p : Pos} {fs fs' : List Frame} (h : (End.susp v g l k c p (fs ++ fs')).quiet = true) : (End.susp v g l k c p fs).quiet = true := by
  have h' : (!(g || (fs ++ fs').any Frame.guarded)) = true := h
  show (!(g || fs.any Frame.guarded)) = true
  rw [List.any_append, Bool.not_eq_true', Bool.or_eq_false_iff, Bool.or_eq_false_iff] at h'
  rw [h'.1, h'.2.1]; rfl

theorem noRuns' {M : Model} {G : Ctx} {p : Pos} {w : String} {fs : List Frame} {s : Shared} {e : End} {s' : Shared} (h : Runs M G p (.unsupported w) fs s e s') : False := noRuns h

section
variable {P : Program} {w : World}
theorem runs_bb {Ga : Ctx} {p : Pos} {t : Sem PySem.Fin} {fs : List Frame} {sh sh' : Shared} {e : End} (h : Runs (model P w) Ga p t fs sh e sh') {G0 : Array GenState} :
    e.quiet = true → NoG fs → ∀ s, Zb G0 s sh → ∃ s', Zb G0 s' sh' ∧ Runs (Md P w) Ga p (uy Ga.code t) (fs.map uyF) s (uyE e) s' ∧ NoGE e := by
  induction h with
  | done => intro _ _ s z; exact ⟨s, z, .done, trivial⟩
  | raise => intro _ _ s z; exact ⟨s, z, .raise, trivial⟩
  | again hq _ ih => intro he hn s z; obtain ⟨s', z', r, ne⟩ := ih he hn s z; exact ⟨s', z', .again hq r, ne⟩
  | rule _ ih => intro he hn s z; obtain ⟨s', z', r, ne⟩ := ih he hn s z; exact ⟨s', z', .rule r, ne⟩
  | «at» _ ih => intro he hn s z; obtain ⟨s', z', r, ne⟩ := ih he hn s z; exact ⟨s', z', .at r, ne⟩
  | load ho _ ih => intro he hn s z; obtain ⟨s', z', r, ne⟩ := ih he hn s z; exact ⟨s', z', .load (by rw [z.heap]; exact ho) r, ne⟩
  | update ho _ ih =>
    intro he hn s z
    obtain ⟨G, rfl, zg⟩ := z
    obtain ⟨s', z', r, ne⟩ := ih he hn _ ⟨_, rfl, zg⟩
    exact ⟨s', z', .update ho r, ne⟩
  | loadIfAlive _ ih =>
    intro he hn s z
    obtain ⟨G, rfl, zg⟩ := z
    obtain ⟨s', z', r, ne⟩ := ih he hn _ ⟨_, rfl, zg⟩
    exact ⟨s', z', .loadIfAlive r, ne⟩
  | point _ ih => intro he hn s z; obtain ⟨s', z', r, ne⟩ := ih he hn s z; exact ⟨s', z', .point r, ne⟩
  | alloc _ ih =>
    intro he hn s z
    obtain ⟨G, rfl, zg⟩ := z
    obtain ⟨s', z', r, ne⟩ := ih he hn _ ⟨_, rfl, zg⟩
    exact ⟨s', z', .alloc r, ne⟩
  | fresh _ ih =>
    intro he hn s z
    obtain ⟨G, rfl, zg⟩ := z
    obtain ⟨s', z', r, ne⟩ := ih he hn _ ⟨_, rfl, zg⟩
    exact ⟨s', z', .fresh r, ne⟩
  | ask _ ih => intro he hn s z; obtain ⟨s', z', r, ne⟩ := ih he hn s z; exact ⟨s', z', .ask r, ne⟩
  | choose h0 _ ih =>
    intro he hn s z
    obtain ⟨G, rfl, zg⟩ := z
    obtain ⟨s', z', r, ne⟩ := ih he hn _ ⟨_, rfl, zg⟩
    exact ⟨s', z', .choose h0 r, ne⟩
  | os _ ih =>
    intro he hn s z
    obtain ⟨G, rfl, zg⟩ := z
    obtain ⟨s', z', r, ne⟩ := ih he hn _ ⟨_, rfl, zg⟩
    exact ⟨s', z', .os r, ne⟩
  | handled _ ih => intro he hn s z; obtain ⟨s', z', r, ne⟩ := ih he hn s z; exact ⟨s', z', .handled r, ne⟩
  | genState hg _ ih =>
    intro he hn s z
    obtain ⟨s', z', r, ne⟩ := ih he hn s z
    rcases z.zb.cases hg with ⟨k, l, c, p, fs, cl, _, h1, rfl⟩ | ⟨_, h1, _⟩
    · exact ⟨s', z', .genState h1 r, ne⟩
    · exact ⟨s', z', .genState h1 (by rw [uyG_status]; exact r), ne⟩
  | stack _ ih => intro he hn s z; obtain ⟨s', z', r, ne⟩ := ih he hn s z; exact ⟨s', z', .stack r, ne⟩
  | thread _ ih => intro he hn s z; obtain ⟨s', z', r, ne⟩ := ih he hn s z; exact ⟨s', z', .thread r, ne⟩
  | newGen _ ih =>
    intro he hn s z
    obtain ⟨G, rfl, zg⟩ := z
    obtain ⟨s', z', r, ne⟩ := ih he hn _ ⟨_, rfl, zg.push _⟩
    rw [← zg.sz] at r
    exact ⟨s', z', .newGen r, ne⟩
  | call _ _ ih1 ih2 =>
    intro he hn s z
    obtain ⟨s1, z1, r1, _⟩ := ih1 rfl .nil s z
    obtain ⟨s2, z2, r2, ne⟩ := ih2 he hn s1 z1
    exact ⟨s2, z2, .call r1 r2, ne⟩
  | callSusp _ ih =>
    intro he hn s z
    obtain ⟨s1, z1, r1, ne⟩ := ih (quiet_g he) .nil s z
    refine ⟨s1, z1, ?_, NoG.app ne .one⟩
    show Runs _ _ _ _ _ _ (.susp _ _ [] _ _ _ ((_ ++ [_]).map uyF)) _
    rw [List.map_append]
    exact .callSusp r1
  | @yield Ga p v g l k s =>
    intro he hn s z
    have hg : g = false := by
      have h' : (!(g || ([] : List Frame).any Frame.guarded)) = true := he
      simpa using h'
    subst hg
    exact ⟨s, z, .yield, .nil⟩
  | resumeFresh hg _ hq _ ih1 ih2 =>
    intro he hn s z
    rcases z.zb.cases hg with ⟨k, l, c, p, fs, cl, _, h1, e⟩ | ⟨n, h1, _⟩
    · cases e
    · obtain ⟨s1, z1, r1, ne1⟩ := ih1 hq .nil _ (z.setGen n (x := .running) fun _ _ _ _ _ _ e => by cases e)
      obtain ⟨s2, z2, r2, ne⟩ := ih2 he hn _ (z1.setGen n (quiet_state ne1 hq))
      refine ⟨s2, z2, .resumeFresh h1 r1 (by rw [uyE_quiet]; exact hq) ?_, ne⟩
      rw [uyE_result, uyE_state hq]
      exact r2
  | resumeSuspended hg h2 hq _ ih1 ih2 =>
    intro he hn s z
    rcases z.zb.cases hg with ⟨k, l, c, p, fs, cl, _, h1, e⟩ | ⟨n, h1, hf⟩
    · cases e
      exact (noRuns h2).elim
    · obtain ⟨s1, z1, r1, ne1⟩ := ih1 hq (hf _ _ _ _ _ _ rfl).1 _ (z.setGen n (x := .running) fun _ _ _ _ _ _ e => by cases e)
      obtain ⟨s2, z2, r2, ne⟩ := ih2 he hn _ (z1.setGen n (quiet_state ne1 hq))
      refine ⟨s2, z2, .resumeSuspended h1 r1 (by rw [uyE_quiet]; exact hq) ?_, ne⟩
      rw [uyE_result, uyE_state hq]
      exact r2
  | resumeJustStarted hg hv _ ih =>
    intro he hn s z
    rcases z.zb.cases hg with ⟨k, l, c, p, fs, cl, _, h1, e⟩ | ⟨n, h1, _⟩
    · cases e
    · obtain ⟨s', z', r, ne⟩ := ih he hn s z
      exact ⟨s', z', .resumeJustStarted h1 hv r, ne⟩
  | resumeThrowFresh hg _ ih =>
    intro he hn s z
    rcases z.zb.cases hg with ⟨k, l, c, p, fs, cl, _, h1, e⟩ | ⟨n, h1, _⟩
    · cases e
    · obtain ⟨s', z', r, ne⟩ := ih he hn _ (z.setGen n (x := .finished) fun _ _ _ _ _ _ e => by cases e)
      exact ⟨s', z', .resumeThrowFresh h1 r, ne⟩
  | resumeRunning hg _ ih =>
    intro he hn s z
    rcases z.zb.cases hg with ⟨k, l, c, p, fs, cl, _, h1, e⟩ | ⟨n, h1, _⟩
    · cases e
    · obtain ⟨s', z', r, ne⟩ := ih he hn s z
      exact ⟨s', z', .resumeRunning h1 r, ne⟩
  | resumeFinished hg _ ih =>
    intro he hn s z
    rcases z.zb.cases hg with ⟨k, l, c, p, fs, cl, _, h1, e⟩ | ⟨n, h1, _⟩
    · cases e
    · obtain ⟨s', z', r, ne⟩ := ih he hn s z
      exact ⟨s', z', .resumeFinished h1 r, ne⟩
  | @segRet Ga p t k h g l c1 p1 kp fs s0 r s1 e s' _ _ ih1 ih2 =>
    intro he hn s z
    obtain ⟨s1, z1, r1, _⟩ := ih1 rfl .nil s z
    obtain ⟨s2, z2, r2, ne⟩ := ih2 he hn.tail s1 z1
    refine ⟨s2, z2, ?_, ne⟩
    have e0 := uyF_over Ga (.ret k h g l c1 p1 kp :: fs)
    exact .segRet (by rw [show (Frame.ret (fun r => uy c1 (k r)) h g l c1 p1 [] :: fs.map uyF) = (Frame.ret k h g l c1 p1 kp :: fs).map uyF from rfl, e0]; exact r1) r2
  | segGen _ _ _ _ =>
    intro he hn s z
    obtain ⟨_, _, _, _, _, _, _, e⟩ := hn _ List.mem_cons_self
    cases e
  | @segSuspOut Ga p t F fs s0 v g0 l0 k0 c0 p0 fs0 s' hs _ ih =>
    intro he hn s z
    obtain ⟨s1, z1, r1, ne⟩ := ih (quiet_g he) .nil s z
    refine ⟨s1, z1, ?_, NoG.app ne hn⟩
    show Runs _ _ _ _ _ _ (.susp v g0 [] _ c0 p0 ((fs0 ++ F :: fs).map uyF)) _
    rw [List.map_append]
    have e0 := uyF_over Ga (F :: fs)
    exact .segSuspOut (uyF_splitNone hs) (by
      show Runs _ (Ga.over ((F :: fs).map uyF)) _ _ _ _ _ _
      rw [e0]; exact r1)
  | segSuspGen hs _ _ _ _ _ =>
    intro he hn s z
    rw [hn.split] at hs
    cases hs

theorem wakes_bb {Ga : Ctx} {p : Pos} {g : Nat} {r : Resume} {sh sh' s : Shared} {res : GenResult} {G0 : Array GenState} (z : Zb G0 s sh) (h : Wakes (model P w) Ga p g r sh res sh') : ∃ s', Zb G0 s' sh' ∧ Wakes (Md P w) Ga p g r s res s' := by
  unfold Wakes at h
  cases hg : sh.gens[g]? with
  | none => rw [hg] at h; exact h.elim
  | some x =>
    rw [hg] at h
    rcases z.zb.cases hg with ⟨k, l, c, p, fs, cl, _, h1, rfl⟩ | ⟨n, h1, hf⟩
    · obtain ⟨e1, s1, hr, _⟩ := h
      exact (noRuns hr).elim
    · cases x with
      | fresh c =>
        have h1' : s.gens[g]? = some (.fresh c) := h1
        cases r with
        | send v =>
          cases v with
          | none =>
            obtain ⟨e1, s1, hr, hq, rfl, rfl⟩ := h
            obtain ⟨s2, z2, r2, ne⟩ := runs_bb hr hq .nil _ (z.setGen n (x := .running) fun _ _ _ _ _ _ e => by cases e)
            refine ⟨_, z2.setGen n (quiet_state ne hq), ?_⟩
            unfold Wakes; rw [h1']
            exact ⟨uyE e1, s2, r2, by rw [uyE_quiet]; exact hq, (uyE_result e1).symm, by rw [uyE_state hq]⟩
          | _ =>
            obtain ⟨rfl, rfl⟩ := h
            exact ⟨s, z, by unfold Wakes; rw [h1']; exact ⟨rfl, rfl⟩⟩
        | throw v =>
          obtain ⟨rfl, rfl⟩ := h
          exact ⟨_, z.setGen n (x := .finished) (fun _ _ _ _ _ _ e => by cases e), by unfold Wakes; rw [h1']; exact ⟨rfl, rfl⟩⟩
      | suspended k0 l0 c0 p0 fs0 cl0 =>
        obtain ⟨e1, s1, hr, hq, rfl, rfl⟩ := h
        obtain ⟨s2, z2, r2, ne⟩ := runs_bb hr hq (hf _ _ _ _ _ _ rfl).1 _ (z.setGen n (x := .running) fun _ _ _ _ _ _ e => by cases e)
        refine ⟨_, z2.setGen n (quiet_state ne hq), ?_⟩
        unfold Wakes; rw [h1]
        exact ⟨uyE e1, s2, r2, by rw [uyE_quiet]; exact hq, (uyE_result e1).symm, by rw [uyE_state hq]⟩
      | running =>
        have h1' : s.gens[g]? = some .running := h1
        obtain ⟨rfl, rfl⟩ := h
        exact ⟨s, z, by unfold Wakes; rw [h1']; exact ⟨rfl, rfl⟩⟩
      | finished =>
        have h1' : s.gens[g]? = some .finished := h1
        obtain ⟨rfl, rfl⟩ := h
        exact ⟨s, z, by unfold Wakes; rw [h1']; exact ⟨rfl, rfl⟩⟩

theorem wp_bb {α : Type} (Ga : Ctx) (G0 : Array GenState) (t : Sem α) : ∀ (Q : α → Pos → Shared → Prop) (E : Value → Pos → Shared → Prop) (p : Pos) (s sh : Shared), Zb G0 s sh → wp (model P w) Ga t Q E p sh →
    wp (Md P w) Ga t (fun a p' s' => ∃ sh', Zb G0 s' sh' ∧ Q a p' sh') (fun e p' s' => ∃ sh', Zb G0 s' sh' ∧ E e p' sh') p s := by
  induction t with
  | pure a => intro Q E p s sh z h; exact ⟨sh, z, h⟩
  | raise e => intro Q E p s sh z h; exact ⟨sh, z, h⟩
  | unsupported _ => intro Q E p s sh _ h; exact h
  | finish _ => intro Q E p s sh _ h; exact h
  | rule _ k ih => intro Q E p s sh z h; exact ih () Q E p s sh z h
  | «at» p' k ih => intro Q E p s sh z h; exact ih () Q E p' s sh z h
  | load a _ k ih => intro Q E p s sh z h; obtain ⟨o, ho, h⟩ := h; exact ⟨o, by rw [z.heap]; exact ho, ih o Q E p s sh z h⟩
  | update a _ f k ih =>
    intro Q E p s sh z h
    obtain ⟨G, rfl, zg⟩ := z
    exact ⟨h.1, ih () Q E p _ { sh with heap := sh.heap.update a f } ⟨G, rfl, zg⟩ h.2⟩
  | loadIfAlive a k ih =>
    intro Q E p s sh z h
    obtain ⟨G, rfl, zg⟩ := z
    exact ih _ Q E p _ sh ⟨G, rfl, zg⟩ h
  | point _ k ih => intro Q E p s sh z h; exact ih () Q E p s sh z h
  | register _ _ => intro Q E p s sh _ h; exact h
  | alloc o k ih =>
    intro Q E p s sh z h
    obtain ⟨G, rfl, zg⟩ := z
    exact ih _ Q E p _ { sh with heap := sh.heap.push o } ⟨G, rfl, zg⟩ h
  | fresh k ih =>
    intro Q E p s sh z h
    obtain ⟨G, rfl, zg⟩ := z
    exact ih _ Q E p _ { sh with toks := sh.toks + 1 } ⟨G, rfl, zg⟩ h
  | ask k ih => intro Q E p s sh z h; exact ih _ Q E p s sh z h
  | choose src m k ih =>
    intro Q E p s sh z h
    obtain ⟨G, rfl, zg⟩ := z
    exact ⟨h.1, ih _ Q E p _ { sh with drawn := sh.drawn.bump src } ⟨G, rfl, zg⟩ h.2⟩
  | os q _ k ih =>
    intro Q E p s sh z h
    obtain ⟨G, rfl, zg⟩ := z
    exact ih _ Q E p _ { sh with os := (Os.step sh.os q).1 } ⟨G, rfl, zg⟩ h
  | call c hd _ _ k ih =>
    intro Q E p s sh z h
    obtain ⟨r, s', hr, h⟩ := h
    obtain ⟨s1, z1, r1, _⟩ := runs_bb hr rfl .nil s z
    exact ⟨r, s1, r1, ih r Q E p s1 s' z1 h⟩
  | handled own k ih => intro Q E p s sh z h; exact ih _ Q E p s sh z h
  | genState g k ih =>
    intro Q E p s sh z h
    obtain ⟨st, hs, h⟩ := h
    rcases z.zb.cases hs with ⟨k, l, c, p, fs, cl, _, h1, rfl⟩ | ⟨_, h1, _⟩
    · exact ⟨_, h1, ih _ Q E _ s sh z h⟩
    · exact ⟨_, h1, by rw [uyG_status]; exact ih _ Q E _ s sh z h⟩
  | newGen c k ih =>
    intro Q E p s sh z h
    obtain ⟨G, rfl, zg⟩ := z
    have := ih _ Q E p { sh with gens := G.push (.fresh c) } { sh with gens := sh.gens.push (.fresh c) } ⟨_, rfl, zg.push c⟩ h
    rw [← zg.sz] at this
    exact this
  | resume g r _ k ih =>
    intro Q E p s sh z h
    obtain ⟨res, s', hw, h⟩ := h
    obtain ⟨s1, z1, w1⟩ := wakes_bb z hw
    exact ⟨res, s1, w1, ih res Q E p s1 s' z1 h⟩
  | yield _ _ _ _ => intro Q E p s sh _ h; exact h
  | stack k ih => intro Q E p s sh z h; exact ih _ Q E p s sh z h
  | fork _ _ => intro Q E p s sh _ h; exact h
  | thread k ih => intro Q E p s sh z h; exact ih _ Q E p s sh z h
  | await _ _ _ _ _ => intro Q E p s sh _ h; exact h

/-- the plain machine's state in whose stead the marked one stands: the suspended ones stuck; the rest as it is -/
theorem zb_lulled {s : Shared} (hb : PyProof.Rows.AllBare s.gens) : Zb s.gens s (lulled s) := by
  refine ⟨s.gens, rfl, ⟨by simp [lulled], Nat.le_refl _, fun i k l c p fs cl e => ⟨e, ?_⟩, fun i n x hx => ?_⟩⟩
  · show (s.gens.map lull)[i]? = _
    rw [Array.getElem?_map, e]
    rfl
  · have hx' : (s.gens.map lull)[i]? = some x := hx
    rw [Array.getElem?_map] at hx'
    cases e : s.gens[i]? with
    | none => rw [e] at hx'; cases hx'
    | some y =>
      rw [e] at hx'
      have e2 : lull y = x := Option.some.inj hx'
      subst e2
      cases y with
      | suspended k l c p fs cl => exact absurd e (n k l c p fs cl)
      | _ => exact ⟨rfl, fun _ _ _ _ _ _ q => by cases q⟩
theorem allBare_of_zb {G0 : Array GenState} {s sh : Shared} (z : Zb G0 s sh) (h : PyProof.Rows.AllBare sh.gens) : PyProof.Rows.AllBare s.gens := fun y hy => by
  obtain ⟨i, hi, e⟩ := Array.mem_iff_getElem.mp hy
  have hi2 : i < sh.gens.size := by rw [← z.zb.sz]; exact hi
  have e1 : s.gens[i]? = some y := by rw [Array.getElem?_eq_getElem hi, e]
  have hb := h _ (Array.getElem_mem hi2)
  rcases z.zb.cases (Array.getElem?_eq_getElem hi2) with ⟨k, l, c, p, fs, cl, _, h1, e2⟩ | ⟨_, h1, _⟩
  · rw [e2] at hb
    rw [e1] at h1; cases h1
    exact hb
  · rw [e1] at h1
    have h2 := Option.some.inj h1
    rw [h2]
    cases sh.gens[i] <;> rfl
/-- the delegates of the sleeping ones are told in T -/
def Told (T : Addr → Prop) (s : Shared) : Prop := ∀ (i : Nat) k a c p fs cl, s.gens[i]? = some (.suspended k [.ref a] c p fs cl) → T a
theorem told_of_zb {G0 : Array GenState} {s sh : Shared} {T : Addr → Prop} (z : Zb G0 s sh) (h : ∀ (i : Nat) k a c p fs cl, G0[i]? = some (.suspended k [.ref a] c p fs cl) → T a) : Told T s := fun i k a c p fs cl e => by
  have hi : i < sh.gens.size := by rw [← z.zb.sz]; exact (Array.getElem?_eq_some_iff.mp e).1
  rcases z.zb.cases (Array.getElem?_eq_getElem hi) with ⟨k2, l2, c2, p2, fs2, cl2, h0, h1, e2⟩ | ⟨_, h1, h2⟩
  · rw [e] at h1
    cases h1
    exact h i _ _ _ _ _ _ h0
  · rw [e] at h1
    cases q : sh.gens[i] with
    | suspended k3 l3 c3 p3 fs3 cl3 =>
      rw [q] at h1
      have e3 := (h2 _ _ _ _ _ _ q).2
      subst e3
      cases h1
    | _ => rw [q] at h1; cases h1
/-- THE LIFT: what is shown of the plain machine holds of the marked one, and the sleeping ones stay -/
theorem wpAny_bb {α : Type} {A : Around} {s : Shared} {t : Sem α} {Q : α → Shared → Prop} {E : Value → Shared → Prop} (hb : PyProof.Rows.AllBare s.gens) (h : wpAny (model P w) A t Q E (lulled s)) :
    wpAny (Md P w) A t (fun a s' => Asleep s s' ∧ ∃ sh', Zb s.gens s' sh' ∧ Q a sh') (fun e s' => Asleep s s' ∧ ∃ sh', Zb s.gens s' sh' ∧ E e sh') s := fun Ga p hG => by
  have := wp_bb Ga s.gens t _ _ p s (lulled s) (zb_lulled hb) (h Ga p hG)
  refine Sem.wp_mono (Md P w) Ga t ?_ ?_ p s this
  · rintro a p' s' ⟨sh', z, q⟩
    exact ⟨fun i k l c p fs cl e => (z.zb.slp i k l c p fs cl e).1, sh', z, q⟩
  · rintro a p' s' ⟨sh', z, q⟩
    exact ⟨fun i k l c p fs cl e => (z.zb.slp i k l c p fs cl e).1, sh', z, q⟩
/-- a tree that yields nothing is worth the same marked -/
theorem wp_uy {M : Model} {Ga : Ctx} {c : Code} {t : Sem PySem.Fin} : ∀ {Q : PySem.Fin → Pos → Shared → Prop} {E : Value → Pos → Shared → Prop} {p : Pos} {s : Shared}, wp M Ga t Q E p s → wp M Ga (uy c t) Q E p s := by
  induction t with
  | pure a => intro Q E p s h; exact h
  | raise e => intro Q E p s h; exact h
  | unsupported _ => intro Q E p s h; exact h
  | finish _ => intro Q E p s h; exact h
  | rule _ k ih => intro Q E p s h; exact ih () h
  | «at» p' k ih => intro Q E p s h; exact ih () (p := p') h
  | load a _ k ih => intro Q E p s h; obtain ⟨o, ho, h⟩ := h; exact ⟨o, ho, ih o h⟩
  | update a _ f k ih => intro Q E p s h; exact ⟨h.1, ih () h.2⟩
  | loadIfAlive a k ih => intro Q E p s h; exact ih _ h
  | point _ k ih => intro Q E p s h; exact ih () h
  | register _ _ => intro Q E p s h; exact h
  | alloc o k ih => intro Q E p s h; exact ih _ h
  | fresh k ih => intro Q E p s h; exact ih _ h
  | ask k ih => intro Q E p s h; exact ih _ h
  | choose src m k ih => intro Q E p s h; exact ⟨h.1, ih _ h.2⟩
  | os q _ k ih => intro Q E p s h; exact ih _ h
  | call c hd _ _ k ih => intro Q E p s h; obtain ⟨r, s', hr, h⟩ := h; exact ⟨r, s', hr, ih r h⟩
  | handled own k ih => intro Q E p s h; exact ih _ h
  | genState g k ih => intro Q E p s h; obtain ⟨st, hs, h⟩ := h; exact ⟨st, hs, ih _ h⟩
  | newGen c k ih => intro Q E p s h; exact ih _ h
  | resume g r _ k ih => intro Q E p s h; obtain ⟨res, s', hw, h⟩ := h; exact ⟨res, s', hw, ih res h⟩
  | yield _ _ _ _ => intro Q E p s h; exact h.elim
  | stack k ih => intro Q E p s h; exact ih _ h
  | fork _ _ => intro Q E p s h; exact h
  | thread k ih => intro Q E p s h; exact ih _ h
  | await _ _ _ _ _ => intro Q E p s h; exact h
end
end Gk
/-! The marked machine's runs are the machine's own. -/
namespace Gk
open PySem

def uyS (s : Shared) : Shared := { s with gens := s.gens.map uyG }
def uyT (t : Thread) : Thread := ⟨uy t.code t.cur, t.code, t.pos, t.stack.map uyF⟩
def WfG (x : GenState) : Prop := ∀ k l c p fs, x = .suspended k l c p fs true → (∃ a, yTo c = some a) ∧ fs.any Frame.guarded = false
def Wf (G : Array GenState) : Prop := ∀ (i : Nat) (x : GenState), G[i]? = some x → WfG x
theorem Wf.set {G : Array GenState} (h : Wf G) {g : Nat} {x : GenState} (hx : WfG x) : Wf (G.setIfInBounds g x) := fun i y e => by
  by_cases hi : g = i
  · subst hi
    by_cases hb : g < G.size
    · have : (G.setIfInBounds g x)[g]? = some x := by simp [hb]
      rw [this] at e; cases e; exact hx
    · have := (Array.getElem?_eq_some_iff.mp e).1
      exact absurd (by simpa using this) hb
  · rw [Array.getElem?_setIfInBounds_ne hi] at e
    exact h i y e
theorem Wf.push {G : Array GenState} (h : Wf G) {c : Code} : Wf (G.push (.fresh c)) := fun i y e => by
  rw [Array.getElem?_push] at e
  split at e
  · cases e; intro k l c p fs q; cases q
  · exact h i y e
theorem wfg_fin : WfG .finished := fun _ _ _ _ _ q => by cases q
theorem wfg_run : WfG .running := fun _ _ _ _ _ q => by cases q
theorem uyS_get {s : Shared} {g : Nat} : (uyS s).gens[g]? = (s.gens[g]?).map uyG := by
  show (s.gens.map uyG)[g]? = _
  rw [Array.getElem?_map]
theorem uyS_set {s : Shared} {g : Nat} {x : GenState} : uyS { s with gens := s.gens.setIfInBounds g x } = { uyS s with gens := (uyS s).gens.setIfInBounds g (uyG x) } := by
  show ({ s with gens := (s.gens.setIfInBounds g x).map uyG } : Shared) = { s with gens := (s.gens.map uyG).setIfInBounds g (uyG x) }
  rw [Array.map_setIfInBounds]

section
variable {P : Program} {w : World}
/-- the delegating yield -/
def Deleg (t : Thread) : Prop := ∃ v l k a, t.cur = .yield v true l k ∧ yTo t.code = some a

theorem step_go {s : Shared} {t : Thread} {s1 : Shared} {t1 : Thread} (nd : ¬ Deleg t) (h : stepI den' P w (uyS s) (uyT t) = .go s1 t1) :
    ∃ s' t', step (denote table) P w s t = .go s' t' ∧ uyS s' = s1 ∧ uyT t' = t1 ∧ (Wf s.gens → Wf s'.gens) ∧ t.calm = true := by
  have hl : (uyT t).loud = false := by
    cases q : (uyT t).loud with
    | false => rfl
    | true => rw [stepI_loud _ _ _ q] at h; cases h
  rw [stepI_quiet _ _ _ hl] at h
  obtain ⟨heap, gens, drawn, toks, os⟩ := s
  obtain ⟨cur, code, pos, stack⟩ := t
  have calm : (uyT ⟨cur, code, pos, stack⟩).loud = (Thread.mk cur code pos stack).loud → (Thread.mk cur code pos stack).refused = false → (Thread.mk cur code pos stack).calm = true := fun e r => by
    rw [Thread.calm_eq, ← e, hl, r]; rfl
  cases cur with
  | pure f =>
    cases f with
    | again c =>
      refine ⟨_, _, rfl, ?_, ?_, fun z => z, calm rfl rfl⟩
      · have h' : Step.go (uyS ⟨heap, gens, drawn, toks, os⟩) ⟨den' c, c, pos, stack.map uyF⟩ = .go s1 t1 := h
        injection h'
      · have h' : Step.go (uyS ⟨heap, gens, drawn, toks, os⟩) ⟨den' c, c, pos, stack.map uyF⟩ = .go s1 t1 := h
        injection h' with _ h2
        rw [← h2]
        cases stack with
        | nil => cases code <;> cases c <;> rfl
        | cons F r => cases F <;> cases code <;> cases c <;> rfl
    | done f =>
      cases stack with
      | nil =>
        exfalso
        have h' : finish (.done f) (uyS ⟨heap, gens, drawn, toks, os⟩) = .go s1 t1 := h
        unfold finish at h'
        split at h' <;> cases h'
      | cons F r =>
        cases F with
        | ret k hh g l c p kp =>
          have h' : Step.go (uyS ⟨heap, gens, drawn, toks, os⟩) ⟨uy c (k (.ok f)), c, p, r.map uyF⟩ = .go s1 t1 := h
          injection h' with h1 h2
          exact ⟨_, _, rfl, h1, h2, fun z => z, calm rfl rfl⟩
        | gen g k l c p =>
          have h' : Step.go _ (Thread.mk (uy c (k (End.result (.ret (.ok f))))) c p (r.map uyF)) = .go s1 t1 := h
          injection h' with h1 h2
          refine ⟨_, _, rfl, ?_, h2, fun z => z.set wfg_fin, calm rfl rfl⟩
          rw [← h1]
          exact uyS_set (s := ⟨heap, gens, drawn, toks, os⟩)
  | raise e =>
    cases stack with
    | nil =>
      exfalso
      have h' : finish (.uncaught e) (uyS ⟨heap, gens, drawn, toks, os⟩) = .go s1 t1 := h
      unfold finish at h'
      split at h' <;> cases h'
    | cons F r =>
      cases F with
      | ret k hh g l c p kp =>
        have h' : Step.go (uyS ⟨heap, gens, drawn, toks, os⟩) ⟨uy c (k (.error e)), c, p, r.map uyF⟩ = .go s1 t1 := h
        injection h' with h1 h2
        exact ⟨_, _, rfl, h1, h2, fun z => z, calm rfl rfl⟩
      | gen g k l c p =>
        have h' : Step.go _ (Thread.mk (uy c (k (.raised e))) c p (r.map uyF)) = .go s1 t1 := h
        injection h' with h1 h2
        refine ⟨_, _, rfl, ?_, h2, fun z => z.set wfg_fin, calm rfl rfl⟩
        rw [← h1]
        exact uyS_set (s := ⟨heap, gens, drawn, toks, os⟩)
  | unsupported what => exfalso; cases h
  | finish e =>
    exfalso
    have h' : (if leftWithCleanup (gens.map uyG) then Step.halt (.unsupported "lifetime:generator-with-cleanup-left-suspended") (uyS ⟨heap, gens, drawn, toks, os⟩) else .halt (.ended e) (uyS ⟨heap, gens, drawn, toks, os⟩)) = .go s1 t1 := h
    split at h' <;> cases h'
  | rule tag k => injection (show Step.go (uyS ⟨heap, gens, drawn, toks, os⟩) ⟨uy code (k ()), code, pos, stack.map uyF⟩ = .go s1 t1 from h) with h1 h2; exact ⟨_, _, rfl, h1, h2, fun z => z, calm rfl rfl⟩
  | «at» p k => injection (show Step.go (uyS ⟨heap, gens, drawn, toks, os⟩) ⟨uy code (k ()), code, p, stack.map uyF⟩ = .go s1 t1 from h) with h1 h2; exact ⟨_, _, rfl, h1, h2, fun z => z, calm rfl rfl⟩
  | load a part k =>
    have h' : (match heap.get? a with
      | some o => Step.go (uyS ⟨heap, gens, drawn, toks, os⟩) ⟨uy code (k o), code, pos, stack.map uyF⟩
      | none => .halt (.stuck (if a < heap.objs.size then "load: the object has been freed" else "load: no object at this address")) (uyS ⟨heap, gens, drawn, toks, os⟩)) = .go s1 t1 := h
    cases q : heap.get? a with
    | none => rw [q] at h'; cases h'
    | some o =>
      rw [q] at h'
      injection h' with h1 h2
      refine ⟨⟨heap, gens, drawn, toks, os⟩, ⟨k o, code, pos, stack⟩, ?_, h1, h2, fun z => z, calm rfl rfl⟩
      simp only [step, q]
  | update a part f k =>
    have h' : (if (heap.get? a).isSome then Step.go (uyS ⟨heap.update a f, gens, drawn, toks, os⟩) ⟨uy code (k ()), code, pos, stack.map uyF⟩
      else .halt (.stuck "update: no object at this address, or it has been freed") (uyS ⟨heap, gens, drawn, toks, os⟩)) = .go s1 t1 := h
    cases q : (heap.get? a).isSome with
    | false => rw [q, if_neg Bool.false_ne_true] at h'; cases h'
    | true =>
      rw [q, if_pos rfl] at h'
      injection h' with h1 h2
      refine ⟨⟨heap.update a f, gens, drawn, toks, os⟩, ⟨k (), code, pos, stack⟩, ?_, h1, h2, fun z => z, calm rfl rfl⟩
      simp only [step, q, if_true]
  | alloc o k => injection (show Step.go (uyS ⟨heap.push o, gens, drawn, toks, os⟩) ⟨uy code (k heap.objs.size), code, pos, stack.map uyF⟩ = .go s1 t1 from h) with h1 h2; exact ⟨_, _, rfl, h1, h2, fun z => z, calm rfl rfl⟩
  | loadIfAlive a k => injection (show Step.go (uyS ⟨heap, gens, drawn, toks, os⟩) ⟨uy code (k (heap.get? a)), code, pos, stack.map uyF⟩ = .go s1 t1 from h) with h1 h2; exact ⟨_, _, rfl, h1, h2, fun z => z, calm rfl rfl⟩
  | point l k => injection (show Step.go (uyS ⟨heap, gens, drawn, toks, os⟩) ⟨uy code (k ()), code, pos, stack.map uyF⟩ = .go s1 t1 from h) with h1 h2; exact ⟨_, _, rfl, h1, h2, fun z => z, calm rfl rfl⟩
  | register a k => exfalso; cases h
  | fresh k => injection (show Step.go (uyS ⟨heap, gens, drawn, toks + 1, os⟩) ⟨uy code (k toks), code, pos, stack.map uyF⟩ = .go s1 t1 from h) with h1 h2; exact ⟨_, _, rfl, h1, h2, fun z => z, calm rfl rfl⟩
  | ask k => injection (show Step.go (uyS ⟨heap, gens, drawn, toks, os⟩) ⟨uy code (k ⟨P, w.params⟩), code, pos, stack.map uyF⟩ = .go s1 t1 from h) with h1 h2; exact ⟨_, _, rfl, h1, h2, fun z => z, calm rfl rfl⟩
  | choose src n k =>
    have h' : (if n = 0 then Step.halt (.stuck "choose 0") (uyS ⟨heap, gens, drawn, toks, os⟩) else .go (uyS ⟨heap, gens, drawn.bump src, toks, os⟩) ⟨uy code (k (w.draws src (drawn.get src) % n)), code, pos, stack.map uyF⟩) = .go s1 t1 := h
    by_cases q : n = 0
    · rw [if_pos q] at h'; cases h'
    · rw [if_neg q] at h'
      injection h' with h1 h2
      refine ⟨⟨heap, gens, drawn.bump src, toks, os⟩, ⟨k (w.draws src (drawn.get src) % n), code, pos, stack⟩, ?_, h1, h2, fun z => z, calm rfl rfl⟩
      simp only [step, q, if_false]
  | os q l k => injection (show Step.go (uyS ⟨heap, gens, drawn, toks, (Os.step os q).1⟩) ⟨uy code (k (Os.step os q).2), code, pos, stack.map uyF⟩ = .go s1 t1 from h) with h1 h2; exact ⟨_, _, rfl, h1, h2, fun z => z, calm rfl rfl⟩
  | call c hh g l k =>
    injection (show Step.go (uyS ⟨heap, gens, drawn, toks, os⟩) ⟨den' c, c, pos, .ret (fun r => uy code (k r)) hh g l code pos [] :: stack.map uyF⟩ = .go s1 t1 from h) with h1 h2
    exact ⟨_, _, rfl, h1, h2, fun z => z, calm rfl rfl⟩
  | handled own k =>
    have h' : Step.go (uyS ⟨heap, gens, drawn, toks, os⟩) ⟨uy code (k (topHandled (if own then (match splitAtGen (stack.map uyF) with | some (fs, _, _) => fs | none => stack.map uyF) else stack.map uyF))), code, pos, stack.map uyF⟩ = .go s1 t1 := h
    injection h' with h1 h2
    refine ⟨_, _, rfl, h1, ?_, fun z => z, calm rfl rfl⟩
    rw [← h2]
    show Thread.mk (uy code (k (topHandled (if own then (match splitAtGen stack with | some (fs, _, _) => fs | none => stack) else stack)))) code pos (stack.map uyF) = _
    have e : topHandled (if own then (match splitAtGen (stack.map uyF) with | some (fs, _, _) => fs | none => stack.map uyF) else stack.map uyF) = topHandled (if own then (match splitAtGen stack with | some (fs, _, _) => fs | none => stack) else stack) := by
      cases own with
      | false => exact uyF_topHandled stack
      | true =>
        rw [uyF_split]
        cases splitAtGen stack with
        | none => exact uyF_topHandled stack
        | some x => exact uyF_topHandled x.1
    rw [e]
  | genState g k =>
    have h' : (match (gens.map uyG)[g]? with
      | none => Step.halt (.stuck "genState: no such generator") (uyS ⟨heap, gens, drawn, toks, os⟩)
      | some st => .go (uyS ⟨heap, gens, drawn, toks, os⟩) ⟨uy code (k st.seen), code, pos, stack.map uyF⟩) = .go s1 t1 := by
      rw [← h]
      show _ = step den' P w (uyS ⟨heap, gens, drawn, toks, os⟩) ⟨.genState g (fun x => uy code (k x)), code, pos, stack.map uyF⟩
      simp only [step, uyS]
      cases (gens.map uyG)[g]? with
      | none => rfl
      | some st => cases st <;> rfl
    rw [Array.getElem?_map] at h'
    cases q : gens[g]? with
    | none => rw [q] at h'; cases h'
    | some st =>
      rw [q] at h'
      simp only [Option.map_some, uyG_status] at h'
      injection h' with h1 h2
      refine ⟨⟨heap, gens, drawn, toks, os⟩, ⟨k st.seen, code, pos, stack⟩, ?_, h1, h2, fun z => z, calm rfl rfl⟩
      simp only [step, q]
      cases st <;> rfl
  | newGen c k =>
    have h' : Step.go ⟨heap, (gens.map uyG).push (.fresh c), drawn, toks, os⟩ ⟨uy code (k (gens.map uyG).size), code, pos, stack.map uyF⟩ = .go s1 t1 := h
    injection h' with h1 h2
    refine ⟨_, _, rfl, ?_, ?_, fun z => z.push, calm rfl rfl⟩
    · rw [← h1]
      show Shared.mk heap ((gens.push (.fresh c)).map uyG) drawn toks os = _
      rw [Array.map_push]; rfl
    · rw [← h2, Array.size_map]; rfl
  | resume g r l k =>
    have h' : step den' P w (uyS ⟨heap, gens, drawn, toks, os⟩) ⟨.resume g r l (fun x => uy code (k x)), code, pos, stack.map uyF⟩ = .go s1 t1 := h
    simp only [step, uyS, Array.getElem?_map] at h'
    cases q : gens[g]? with
    | none => rw [q] at h'; cases h'
    | some st =>
      rw [q] at h'
      cases st with
      | fresh c =>
        cases r with
        | throw e =>
          have h'' : Step.go ⟨heap, (gens.map uyG).setIfInBounds g .finished, drawn, toks, os⟩ ⟨uy code (k (.raised e)), code, pos, stack.map uyF⟩ = .go s1 t1 := h'
          injection h'' with h1 h2
          refine ⟨⟨heap, gens.setIfInBounds g .finished, drawn, toks, os⟩, ⟨k (.raised e), code, pos, stack⟩, by simp only [step, q], ?_, h2, fun z => z.set wfg_fin, calm rfl rfl⟩
          rw [← h1]; exact uyS_set (s := ⟨heap, gens, drawn, toks, os⟩)
        | send v =>
          by_cases hv : v = .none
          · subst hv
            have h'' : Step.go ⟨heap, (gens.map uyG).setIfInBounds g .running, drawn, toks, os⟩ ⟨den' c, c, pos, .gen g (fun x => uy code (k x)) l code pos :: stack.map uyF⟩ = .go s1 t1 := h'
            injection h'' with h1 h2
            refine ⟨⟨heap, gens.setIfInBounds g .running, drawn, toks, os⟩, ⟨denote table c, c, pos, .gen g k l code pos :: stack⟩, by simp only [step, q], ?_, h2, fun z => z.set wfg_run, calm rfl rfl⟩
            rw [← h1]; exact uyS_set (s := ⟨heap, gens, drawn, toks, os⟩)
          · have h'' : Step.go (uyS ⟨heap, gens, drawn, toks, os⟩) ⟨uy code (k .justStarted), code, pos, stack.map uyF⟩ = .go s1 t1 := by
              cases v <;> first | exact absurd rfl hv | exact h'
            injection h'' with h1 h2
            refine ⟨⟨heap, gens, drawn, toks, os⟩, ⟨k .justStarted, code, pos, stack⟩, ?_, h1, h2, fun z => z, calm rfl rfl⟩
            cases v <;> first | exact absurd rfl hv | simp only [step, q]
      | suspended kk l0 c p fs cl =>
        have h'' : Step.go ⟨heap, (gens.map uyG).setIfInBounds g .running, drawn, toks, os⟩ ⟨uy c (kk r), c, p, fs.map uyF ++ .gen g (fun x => uy code (k x)) l code pos :: stack.map uyF⟩ = .go s1 t1 := h'
        injection h'' with h1 h2
        refine ⟨⟨heap, gens.setIfInBounds g .running, drawn, toks, os⟩, ⟨kk r, c, p, fs ++ .gen g k l code pos :: stack⟩, by simp only [step, q], ?_, ?_, fun z => z.set wfg_run, calm rfl rfl⟩
        · rw [← h1]; exact uyS_set (s := ⟨heap, gens, drawn, toks, os⟩)
        · rw [← h2]
          show Thread.mk (uy c (kk r)) c p ((fs ++ .gen g k l code pos :: stack).map uyF) = _
          rw [List.map_append]; rfl
      | running =>
        have h'' : Step.go (uyS ⟨heap, gens, drawn, toks, os⟩) ⟨uy code (k .running), code, pos, stack.map uyF⟩ = .go s1 t1 := h'
        injection h'' with h1 h2
        exact ⟨⟨heap, gens, drawn, toks, os⟩, ⟨k .running, code, pos, stack⟩, by simp only [step, q], h1, h2, fun z => z, calm rfl rfl⟩
      | finished =>
        have h'' : Step.go (uyS ⟨heap, gens, drawn, toks, os⟩) ⟨uy code (k .finished), code, pos, stack.map uyF⟩ = .go s1 t1 := h'
        injection h'' with h1 h2
        exact ⟨⟨heap, gens, drawn, toks, os⟩, ⟨k .finished, code, pos, stack⟩, by simp only [step, q], h1, h2, fun z => z, calm rfl rfl⟩
  | yield v g l k =>
    cases g with
    | true =>
      cases q : yTo code with
      | some a => exact absurd ⟨v, l, k, a, rfl, q⟩ nd
      | none =>
        exfalso
        have e : uyT ⟨.yield v true l k, code, pos, stack⟩ = ⟨.yield v true [] (fun x => uy code (k x)), code, pos, stack.map uyF⟩ := by
          show Thread.mk (uyY code v true fun x => uy code (k x)) code pos _ = _
          unfold uyY
          rw [if_pos rfl, q]
        rw [e] at hl
        simp [Thread.loud, Thread.yieldsInsideHandler] at hl
    | false =>
      have e : uyT ⟨.yield v false l k, code, pos, stack⟩ = ⟨.yield v false [] (fun x => uy code (k x)), code, pos, stack.map uyF⟩ := rfl
      rw [e] at h hl
      have h' : step den' P w (uyS ⟨heap, gens, drawn, toks, os⟩) ⟨.yield v false [] (fun x => uy code (k x)), code, pos, stack.map uyF⟩ = .go s1 t1 := h
      simp only [step, uyS] at h'
      rw [uyF_split] at h'
      cases q : splitAtGen stack with
      | none => rw [q] at h'; cases h'
      | some x =>
        obtain ⟨fs, ⟨g', k', c', p'⟩, rest⟩ := x
        rw [q] at h'
        have hq : splitAtGen (stack.map uyF) = some (fs.map uyF, (g', (fun r => uy c' (k' r)), c', p'), rest.map uyF) := by rw [uyF_split, q]; rfl
        rw [Thread.loud_yield _ _ _ _ _ _ hq, uyF_any] at hl
        have hany : fs.any Frame.guarded = false := by simpa using hl
        injection h' with h1 h2
        refine ⟨⟨heap, gens.setIfInBounds g' (.suspended k l code pos fs (false || fs.any Frame.guarded)), drawn, toks, os⟩, ⟨k' (.yielded v), c', p', rest⟩, by simp only [step, q], ?_, h2, fun z => z.set fun k2 l2 c2 p2 fs2 q2 => ?_, ?_⟩
        · rw [← h1]
          refine (uyS_set (s := ⟨heap, gens, drawn, toks, os⟩)).trans ?_
          show Shared.mk heap ((gens.map uyG).setIfInBounds g' (.suspended (fun r => uy code (k r)) (mark code (false || fs.any Frame.guarded)) code pos (fs.map uyF) false)) drawn toks os = _
          simp only [uyF_any, hany]
          try rfl
        · rw [hany] at q2; cases q2
        · simp [Thread.calm, Thread.atCollectorCode, Thread.yieldsInsideHandler, q, hany]
  | stack k =>
    have h' : Step.go (uyS ⟨heap, gens, drawn, toks, os⟩) ⟨uy code (k ((code, pos) :: (stack.map uyF).map Frame.where_)), code, pos, stack.map uyF⟩ = .go s1 t1 := h
    rw [uyF_wheres] at h'
    injection h' with h1 h2
    exact ⟨_, _, rfl, h1, h2, fun z => z, calm rfl rfl⟩
  | fork c k => exfalso; cases h
  | thread k => injection (show Step.go (uyS ⟨heap, gens, drawn, toks, os⟩) ⟨uy code (k 0), code, pos, stack.map uyF⟩ = .go s1 t1 from h) with h1 h2; exact ⟨_, _, rfl, h1, h2, fun z => z, calm rfl rfl⟩
  | await a t d l k => exfalso; cases h

/-- what the marked run must have at its end: the delegates of the sleeping ones are generators -/
def Alive (s : Shared) : Prop := Told (fun a => ∃ o, s.heap.get? a = some o ∧ isG o = true) s
theorem yTo_shape {c : Code} {a : Addr} (h : yTo c = some a) : ∃ r kw, c = .builtin "proto.yield_from" ⟨.ref a :: r, kw⟩ := by
  unfold yTo at h
  split at h
  · rename_i id b r kw
    split at h
    · rename_i hid
      cases h
      subst hid
      exact ⟨r, kw, rfl⟩
    · cases h
  · cases h
theorem quiet_delegate {s : Shared} {c : Code} {a : Addr} {fs : List Frame} (hr : s.heap.life.registered = []) (h : yTo c = some a) (ho : ∃ o, s.heap.get? a = some o ∧ isG o = true) (hf : fs.any Frame.guarded = false) : closingShows s fs c true = false := by
  obtain ⟨r, kw, rfl⟩ := yTo_shape h
  obtain ⟨o, ho, hg⟩ := ho
  unfold closingShows
  rw [hf]
  show (false || (true && delegateShows s (.ref a))) = false
  unfold delegateShows
  simp only [ho]
  cases q : o.genNumber? with
  | none => rw [isG, q] at hg; cases hg
  | some n => simp [hr]
theorem forget_clean {b : Bool} {s : Shared} (hr : s.heap.life.registered = []) (wf : Wf s.gens) (al : Alive (uyS s)) : leftWithCleanup (forgetSuspended b s).gens = false := by
  unfold leftWithCleanup
  rw [Array.any_eq_false']
  intro x hx
  obtain ⟨y, hy, e⟩ := Array.mem_map.mp (show x ∈ s.gens.map _ from hx)
  obtain ⟨i, hi, ey⟩ := Array.mem_iff_getElem.mp hy
  have ei : s.gens[i]? = some y := by rw [Array.getElem?_eq_getElem hi, ey]
  subst e
  cases y with
  | suspended k l c p fs cl =>
    cases cl with
    | false => simp
    | true =>
      obtain ⟨⟨a, ha⟩, hf⟩ := wf i _ ei k l c p fs rfl
      have e2 : (uyS s).gens[i]? = some (.suspended (fun r => uy c (k r)) [.ref a] c p (fs.map uyF) false) := by
        rw [uyS_get, ei]
        show some (GenState.suspended _ (mark c true) _ _ _ _) = _
        unfold mark
        rw [ha]
      have := quiet_delegate hr ha (al i _ a _ _ _ _ e2) hf
      simp [this]
  | _ => simp
theorem sstep_deleg {s : Shared} {v : Value} {l : List Value} {k : Resume → Sem PySem.Fin} {code : Code} {pos : Pos} {stack fs rest : List Frame} {g : Nat} {k' : GenResult → Sem PySem.Fin} {c' : Code} {p' : Pos} (hs : s.asleep)
    (h : splitAtGen stack = some (fs, (g, k', c', p'), rest)) (hsh : closingShows s fs code true = false) :
    sstep (denote table) P w (.single s ⟨.yield v true l k, code, pos, stack⟩) = .go (.single { s with gens := s.gens.setIfInBounds g (.suspended k l code pos fs true) } ⟨k' (.yielded v), c', p', rest⟩) := by
  have h1 : (Config.single s ⟨.yield v true l k, code, pos, stack⟩).collect? w.params = none := by
    simp [Config.collect?, Config.single, (nothing_to_collect _ _ _ s _ hs.1).1]
  have h2 : (Config.single s ⟨.yield v true l k, code, pos, stack⟩).collectable = [] := by
    simp [Config.collectable, Config.single, (nothing_to_collect w.params _ _ s _ hs.1).2]
  have hm : (Config.single s ⟨.yield v true l k, code, pos, stack⟩).moves w.params.profile = [.run 0] := by
    simp [Config.moves, Config.single, movesFrom, Thread.moves, Thread.atomic]
  have hp : (Config.single s ⟨.yield v true l k, code, pos, stack⟩).pick w = .ok (.run 0, .single s ⟨.yield v true l k, code, pos, stack⟩) := by
    simp only [Config.pick, h1, h2, Config.pickThread, hm]
    cases w.params.lifetimes <;> simp
  have hst : step (denote table) P w s ⟨.yield v true l k, code, pos, stack⟩ = .go { s with gens := s.gens.setIfInBounds g (.suspended k l code pos fs true) } ⟨k' (.yielded v), c', p', rest⟩ := by
    obtain ⟨heap, gens, drawn, toks, os⟩ := s
    simp only [step, h, Bool.true_or]
  have hl : ∀ others, lifeStep (denote table) P w others s ⟨.yield v true l k, code, pos, stack⟩ = .go { s with gens := s.gens.setIfInBounds g (.suspended k l code pos fs true) } ⟨k' (.yielded v), c', p', rest⟩ := fun others => by
    have hcn : s.heap.life.counting = false := hs.2
    simp only [lifeStep, Thread.special, Thread.yieldsInsideHandler, Thread.atCollectorCode, Thread.atItsEnd, collectorTurn?, h, hsh, stepCounting, hcn]
    simpa [hcn] using hst
  simp only [sstep, hp, Config.move]
  simp only [Config.run, Config.single]
  simp [hl, others_single, frozenBadly, ThreadState.insideWrite, Thread.finalizes, Thread.special, Thread.yieldsInsideHandler]
theorem sim_end {s : Shared} {t : Thread} {o : Outcome} {sz : Shared} (ho : o.ends = true) (al : Alive sz) (hs : s.asleep) (wf : Wf s.gens) (nd : ¬ Deleg t) (h : stepI den' P w (uyS s) (uyT t) = .halt o sz) :
    ∃ m s2, schedN (denote table) P w m (.single s t) = .halted o s2 ∧ s2.heap = sz.heap ∧ s2.os = sz.os := by
  have hl : (uyT t).loud = false := by
    cases q : (uyT t).loud with
    | false => rfl
    | true => rw [stepI_loud _ _ _ q] at h; injection h with h1; rw [← h1] at ho; cases ho
  rw [stepI_quiet _ _ _ hl] at h
  have clean : leftWithCleanup (s.gens.map uyG) = false := by
    unfold leftWithCleanup
    rw [Array.any_eq_false']
    intro x hx
    obtain ⟨y, _, e⟩ := Array.mem_map.mp hx
    subst e
    cases y <;> simp [uyG]
  have key : ∀ (hc : t.calm = true) (hz : sz = uyS s) (hat : t.atItsEnd = true) (hstep : ∀ b, step (denote table) P w (forgetSuspended b s) t = finish o (forgetSuspended b s)),
      ∃ m s2, schedN (denote table) P w m (.single s t) = .halted o s2 ∧ s2.heap = sz.heap ∧ s2.os = sz.os := fun hc hz hat hstep => by
    subst hz
    have hls : ∀ others, lifeStep (denote table) P w others s t = .halt o (forgetSuspended (w.params.lifetimes == .anyTime) s) := fun others => by
      rw [lifeStep_calm0 _ _ _ others s t hc hs, if_pos hat, hstep]
      unfold finish
      rw [forget_clean hs.1 wf al]
      rfl
    refine ⟨1, forgetSuspended (w.params.lifetimes == .anyTime) s, ?_, rfl, rfl⟩
    have hr : (Config.single s t).run (denote table) P w 0 = .halt o (forgetSuspended (w.params.lifetimes == .anyTime) s) := by
      obtain ⟨cur, code, pos, stack⟩ := t
      cases cur <;> simp [Thread.atItsEnd] at hat <;> simp only [Config.run, Config.single] <;> simp [hls, others_single, frozenBadly, ThreadState.insideWrite, Thread.finalizes]
      all_goals (try (split <;> simp_all))
    simp only [schedN, sstep, pick_single w s t hc hs.1, Config.move, hr]
  obtain ⟨cur, code, pos, stack⟩ := t
  cases cur with
  | pure f =>
    cases f with
    | again c => cases h
    | done f =>
      cases stack with
      | nil =>
        have h' : finish (.done f) (uyS s) = .halt o sz := h
        unfold finish at h'
        rw [show leftWithCleanup (uyS s).gens = false from clean] at h'
        injection h' with h1 h2
        subst h1 h2
        exact key rfl rfl rfl fun b => rfl
      | cons F r => cases F <;> cases h
  | raise e =>
    cases stack with
    | nil =>
      have h' : finish (.uncaught e) (uyS s) = .halt o sz := h
      unfold finish at h'
      rw [show leftWithCleanup (uyS s).gens = false from clean] at h'
      injection h' with h1 h2
      subst h1 h2
      exact key rfl rfl rfl fun b => rfl
    | cons F r => cases F <;> cases h
  | finish e =>
    have h' : (if leftWithCleanup (uyS s).gens then Step.halt (.unsupported "lifetime:generator-with-cleanup-left-suspended") (uyS s) else .halt (.ended e) (uyS s)) = .halt o sz := h
    rw [show leftWithCleanup (uyS s).gens = false from clean] at h'
    injection h' with h1 h2
    subst h1 h2
    exact key rfl rfl rfl fun b => rfl
  | unsupported what => injection (show Step.halt (.unsupported what) (uyS s) = .halt o sz from h) with h1 _; rw [← h1] at ho; cases ho
  | register a k => injection (show Step.halt (.unsupported "lifetime") (uyS s) = .halt o sz from h) with h1 _; rw [← h1] at ho; cases ho
  | fork c k => injection (show Step.halt (.unsupported "threads") (uyS s) = .halt o sz from h) with h1 _; rw [← h1] at ho; cases ho
  | await a t d l k => injection (show Step.halt (.unsupported "threads") (uyS s) = .halt o sz from h) with h1 _; rw [← h1] at ho; cases ho
  | yield v g l k =>
    exfalso
    cases g with
    | true =>
      cases q : yTo code with
      | some a => exact nd ⟨v, l, k, a, rfl, q⟩
      | none =>
        have e : uyT ⟨.yield v true l k, code, pos, stack⟩ = ⟨.yield v true [] (fun x => uy code (k x)), code, pos, stack.map uyF⟩ := by
          show Thread.mk (uyY code v true fun x => uy code (k x)) code pos _ = _
          unfold uyY
          rw [if_pos rfl, q]
        rw [e] at hl
        simp [Thread.loud, Thread.yieldsInsideHandler] at hl
    | false =>
      have h' : step den' P w (uyS s) ⟨.yield v false [] (fun x => uy code (k x)), code, pos, stack.map uyF⟩ = .halt o sz := h
      simp only [step] at h'
      split at h'
      · cases h'
      · injection h' with h1 _; rw [← h1] at ho; cases ho
  | _ =>
    exfalso
    simp only [uyT, uy, stepK, step] at h
    repeat' split at h
    all_goals first | (cases h; done) | (injection h with h1 _; rw [← h1] at ho; cases ho)
theorem sim {o : Outcome} {sz : Shared} (ho : o.ends = true) (al : Alive sz) : ∀ (n : Nat) (s : Shared) (t : Thread), s.asleep → Wf s.gens → runNI den' P w n (uyS s) (uyT t) = .halted o sz →
    ∃ m s2, schedN (denote table) P w m (.single s t) = .halted o s2 ∧ s2.heap = sz.heap ∧ s2.os = sz.os := by
  intro n
  induction n using Nat.strongRecOn with
  | ind n ih =>
    intro s t hs wf h
    cases n with
    | zero => cases h
    | succ n =>
      have h0 := h
      simp only [runNI] at h
      by_cases hd : Deleg t
      · obtain ⟨v, l, k, a, hc, ha⟩ := hd
        obtain ⟨cur, code, pos, stack⟩ := t
        have hc' : cur = .yield v true l k := hc
        subst hc'
        have ha' : yTo code = some a := ha
        have e : uyT ⟨.yield v true l k, code, pos, stack⟩ = ⟨.load a none fun o => if isG o = true then .yield v false [.ref a] (fun x => uy code (k x)) else .unsupported "gk", code, pos, stack.map uyF⟩ := by
          show Thread.mk (uyY code v true fun x => uy code (k x)) code pos _ = _
          unfold uyY
          rw [if_pos rfl, ha']
        rw [e] at h
        cases q : s.heap.get? a with
        | none =>
          have : stepI den' P w (uyS s) ⟨.load a none fun o => if isG o = true then .yield v false [.ref a] (fun x => uy code (k x)) else .unsupported "gk", code, pos, stack.map uyF⟩ = .halt (.stuck (if a < s.heap.objs.size then "load: the object has been freed" else "load: no object at this address")) (uyS s) := by
            show stepI den' P w { s with gens := s.gens.map uyG } _ = _
            simp [stepI, Thread.loud, Thread.atCollectorCode, Thread.yieldsInsideHandler, stepK, step, q, uyS]
          rw [this] at h
          injection h with h1 h2
          rw [← h1] at ho
          cases ho
        | some ob =>
          have st1 : stepI den' P w (uyS s) ⟨.load a none fun o => if isG o = true then .yield v false [.ref a] (fun x => uy code (k x)) else .unsupported "gk", code, pos, stack.map uyF⟩ = .go (uyS s) ⟨if isG ob = true then .yield v false [.ref a] (fun x => uy code (k x)) else .unsupported "gk", code, pos, stack.map uyF⟩ := by
            show stepI den' P w { s with gens := s.gens.map uyG } _ = _
            simp [stepI, Thread.loud, Thread.atCollectorCode, Thread.yieldsInsideHandler, stepK, step, q, uyS]
          rw [st1] at h
          have h : runNI den' P w n (uyS s) ⟨if isG ob = true then .yield v false [.ref a] (fun x => uy code (k x)) else .unsupported "gk", code, pos, stack.map uyF⟩ = .halted o sz := h
          cases n with
          | zero => cases h
          | succ n =>
            simp only [runNI] at h
            by_cases hg : isG ob = true
            · rw [if_pos hg] at h
              cases hsp : splitAtGen stack with
              | none =>
                exfalso
                have hq : splitAtGen (stack.map uyF) = none := uyF_splitNone hsp
                have : ∃ why, stepI den' P w (uyS s) ⟨.yield v false [.ref a] (fun x => uy code (k x)), code, pos, stack.map uyF⟩ = .halt (.stuck why) (uyS s) := by
                  refine ⟨"yield outside a generator", ?_⟩
                  show stepI den' P w { s with gens := s.gens.map uyG } _ = _
                  simp [stepI, Thread.loud, Thread.atCollectorCode, Thread.yieldsInsideHandler, stepK, step, hq, uyS]
                obtain ⟨why, e3⟩ := this
                rw [e3] at h
                injection h with h1 h2
                rw [← h1] at ho; cases ho
              | some x =>
                obtain ⟨fs, ⟨g', k', c', p'⟩, rest⟩ := x
                have hq : splitAtGen (stack.map uyF) = some (fs.map uyF, (g', (fun r => uy c' (k' r)), c', p'), rest.map uyF) := by rw [uyF_split, hsp]; rfl
                cases hany : fs.any Frame.guarded with
                | true =>
                  exfalso
                  have hl : Thread.loud ⟨.yield v false [.ref a] (fun x => uy code (k x)), code, pos, stack.map uyF⟩ = true := by
                    rw [Thread.loud_yield _ _ _ _ _ _ hq, uyF_any, hany]; rfl
                  rw [stepI_loud _ _ _ hl] at h
                  injection h with h1 h2
                  rw [← h1] at ho; cases ho
                | false =>
                  have hl : Thread.loud ⟨.yield v false [.ref a] (fun x => uy code (k x)), code, pos, stack.map uyF⟩ = false := by
                    rw [Thread.loud_yield _ _ _ _ _ _ hq, uyF_any, hany]; rfl
                  have st2 : stepI den' P w (uyS s) ⟨.yield v false [.ref a] (fun x => uy code (k x)), code, pos, stack.map uyF⟩ = .go (uyS { s with gens := s.gens.setIfInBounds g' (.suspended k l code pos fs true) }) (uyT ⟨k' (.yielded v), c', p', rest⟩) := by
                    rw [stepI_quiet _ _ _ hl, uyS_set]
                    obtain ⟨heap, gens, drawn, toks, os⟩ := s
                    show step den' P w (uyS ⟨heap, gens, drawn, toks, os⟩) ⟨.yield v false [.ref a] (fun x => uy code (k x)), code, pos, stack.map uyF⟩ = _
                    simp only [step, uyS, hq, uyF_any, hany, uyG, mark, ha', uyT, Bool.or_false]
                  rw [st2] at h
                  obtain ⟨m, s2, hm, e1, e2⟩ := ih n (by omega) { s with gens := s.gens.setIfInBounds g' (.suspended k l code pos fs true) } ⟨k' (.yielded v), c', p', rest⟩ hs (wf.set fun k2 l2 c2 p2 fs2 q2 => by cases q2; exact ⟨⟨a, ha'⟩, hany⟩) h
                  refine ⟨m + 1, s2, ?_, e1, e2⟩
                  simp only [schedN, sstep_deleg hs hsp (quiet_delegate hs.1 ha' ⟨ob, q, hg⟩ hany)]
                  exact hm
            · rw [if_neg hg] at h
              exfalso
              have : stepI den' P w (uyS s) ⟨.unsupported "gk", code, pos, stack.map uyF⟩ = .halt (.unsupported "gk") (uyS s) := rfl
              rw [this] at h
              injection h with h1 h2
              rw [← h1] at ho; cases ho
      · cases q : stepI den' P w (uyS s) (uyT t) with
        | go s1 t1 =>
          rw [q] at h
          obtain ⟨s', t', hst, rfl, rfl, hw, hcalm⟩ := step_go hd q
          obtain ⟨m, s2, hm, e1, e2⟩ := ih n (Nat.lt_succ_self _) s' t' (by simp only [Shared.asleep, step_life _ _ _ s s' t t' hst]; exact hs) (hw wf) h
          refine ⟨m + 1, s2, ?_, e1, e2⟩
          rcases sstep_single (denote table) P w s t hcalm hs with e | e
          · simp only [schedN, e, hst, Step.lift]
            exact hm
          · rw [hst] at e; cases e
        | halt o1 s1 =>
          rw [q] at h
          injection h with h1 h2
          subst h1 h2
          exact sim_end ho al hs wf hd q
end
end Gk
/-! The layer's judgements over the marked machine: what sleeps is pinned. -/
namespace Gk
open PySem PySem.Spec PyProof.Rows L2

abbrev no : Value → Shared → Prop := fun _ _ => False

/-! ### code of the marked machine -/
section
variable {P : Program} {w : World} {A : Around} {s : Shared}
theorem wpAny_uy {M : Model} {c : Code} {t : Sem PySem.Fin} {Q : PySem.Fin → Shared → Prop} {E : Value → Shared → Prop} (h : wpAny M A t Q E s) : wpAny M A (uy c t) Q E s := fun Ga p hG => wp_uy (h Ga p hG)
theorem md_tree {c : Code} {R : Result → Shared → Prop}
    (h : wpAny (Md P w) (A.under c) ((model P w).den c) (fun fin s' => match fin with | .done f => R (.ok f) s' | .again c' => c'.quiet = true ∧ codeAny (Md P w) A c' R s') (fun e s' => R (.error e) s') s) : codeAny (Md P w) A c R s := by
  refine codeAny_of_tree ?_
  exact wpAny_uy h
theorem md_loop {c : Code} {R : Result → Shared → Prop} (hq : c.quiet = true) (I : Nat → Shared → Prop)
    (turn : ∀ n s, I n s → wpAny (Md P w) (A.under c) ((model P w).den c)
      (fun fin s' => match fin with
        | .done f => R (.ok f) s'
        | .again c' => (c' = c ∧ ∃ m, m < n ∧ I m s') ∨ (c'.quiet = true ∧ codeAny (Md P w) A c' R s')) (fun e s' => R (.error e) s') s)
    (n : Nat) (h : I n s) : codeAny (Md P w) A c R s := codeAny_loop' hq I (fun n s hI => wpAny_uy (turn n s hI)) n h
theorem md_block {stmts : List Stmt} {env : Env} {R : Result → Shared → Prop} (h : wpAny (Md P w) A (execs stmts env) (fun f s' => R (.ok f) s') no s) : codeAny (Md P w) A (.block stmts env) R s := by
  refine md_tree ?_
  show wpAny (Md P w) _ ((execs stmts env).onRaise (fun x => do noteFrame x env; theTreesLotGoes x) >>= fun f => pure (Fin.done f)) _ _ s
  exact wpAny_bind (wpAny_noted (wpAny_mono h (fun f s' q => wpAny_pure q) fun _ _ q => q.elim))
theorem md_func {body : List Stmt} {env : Env} {R : Result → Shared → Prop} (h : wpAny (Md P w) (A.deeper env) (execs body env) (fun f s' => R (.ok (.ret (match f with | .ret v => v | _ => .none))) s') no s) : codeAny (Md P w) A (.func body env) R s := by
  refine md_tree ?_
  show wpAny (Md P w) (A.deeper env) (point >>= fun _ => (execs body env).onRaise (leaving env) >>= _) _ _ s
  refine wpAny_bind (wpAny_point (wpAny_bind (wpAny_onRaise (wpAny_mono h (fun f s' q => ?_) fun _ _ q => q.elim))))
  cases f <;> exact wpAny_pure q
theorem md_function {a : Addr} {args : Args} {o : Obj} {fd : FuncData} {body : List Stmt} {R : Result → Shared → Prop} (hroom : A.depth < recursionLimit) (ho : s.heap.get? a = some o) (hd : o.data = .func fd)
    (hco : fd.scope.isCoroutine = false) (hgen : fd.scope.isGenerator = false) (hbody : fd.body = .stmts body) (hcd : s.heap.CodeRec fd.code fd.qualname)
    (h : wpAny (Md P w) A.in1 (bindArgs fd args) (fun binds s1 => wpAny (Md P w) A.in1 (newFunctionEnv fd.scope fd.globals fd.closure binds (fd.qualname ++ ".<locals>.") (some a) fd.code none fd.builtins)
        (fun env s2 => s2.heap.NoLimit ∧ codeAny (Md P w) A (.func body env) R s2) no s1) no s) : codeAny (Md P w) A (.call (.ref a) args) R s := by
  refine md_tree ?_
  show wpAny (Md P w) A.in1 (callAny (.ref a) args) _ _ s
  unfold callAny
  refine wpAny_bind (wpAny_load ho ?_)
  obtain ⟨c, oc, vs, tq, hc, hoc, hdc, hq⟩ := hcd
  simp only [hd, callFunction, hco, hgen, hbody, hc]
  rw [hc] at h
  refine wpAny_bind (m := field (.ref c) 1) (wpAny_field hoc hdc hq (wpAny_bind (wpAny_pure ?_)))
  refine wpAny_bind (wpAny_mono h (fun binds s1 h1 => ?_) fun _ _ q => q.elim)
  refine wpAny_bind (wpAny_mono h1 (fun env s2 h2 => ?_) fun _ _ q => q.elim)
  exact wpAny_bind (wpAny_enterFrame h2.1 hroom (wpAny_pure ⟨rfl, h2.2⟩))
theorem md_builtin {id : String} {args : Args} {b : Builtin} {R : Result → Shared → Prop} (hb : entryFor table id = some b)
    (h : wpAny (Md P w) (A.under (.builtin id args)) (b args) (fun fin s' => match fin with | .done f => R (.ok f) s' | .again c' => c'.quiet = true ∧ codeAny (Md P w) A c' R s') (fun e s' => R (.error e) s') s) :
    codeAny (Md P w) A (.builtin id args) R s := by
  refine md_tree ?_
  have e : (model P w).den (.builtin id args) = b args := by
    show (match entryFor table id with | some b => b args | none => unsupported _) = _
    rw [hb]
  rw [e]; exact h
theorem md_call_builtin {id : String} {args : Args} {b : Builtin} {R : Result → Shared → Prop} (hq : plainId id = true) (hb : entryFor table id = some b)
    (h : wpAny (Md P w) A.in1 (checkBuiltinCall id args) (fun _ s1 => wpAny (Md P w) A.in1 (b args) (fun fin s' => match fin with | .done f => R (.ok f) s' | .again c' => c'.quiet = true ∧ codeAny (Md P w) A c' R s') (fun e s' => R (.error e) s') s1) no s) :
    codeAny (Md P w) A (.call (.builtin id) args) R s := by
  refine md_tree ?_
  show wpAny (Md P w) A.in1 (checkBuiltinCall id args >>= fun _ => again (.builtin id args)) _ _ s
  refine wpAny_bind (wpAny_mono h (fun _ s1 h1 => wpAny_pure ⟨plainId_quiet hq args, md_builtin hb ?_⟩) fun _ _ q => q.elim)
  rw [Around.under_plainId hq args]
  exact h1
/-- a plain code's answer holds of the marked machine -/
theorem codeAny_bb {c : Code} {R : Result → Shared → Prop} (hb : AllBare s.gens) (h : codeAny (model P w) A c R (lulled s)) : codeAny (Md P w) A c (fun r s' => Asleep s s' ∧ ∃ sh', Zb s.gens s' sh' ∧ R r sh') s := fun Ga hc p hG => by
  obtain ⟨r, s', hr, hR⟩ := h Ga hc p hG
  obtain ⟨s1, z1, r1, _⟩ := runs_bb hr rfl .nil s (zb_lulled hb)
  refine ⟨r, s1, ?_, fun i k l c p fs cl e => (z1.zb.slp i k l c p fs cl e).1, s', z1, hR⟩
  exact r1
end

/-! ### what is told of the sleepers -/
def TP (pins : List (Addr × Obj)) (a : Addr) : Prop := ∃ o, (a, o) ∈ pins ∧ isG o = true
theorem Told.mono {T T' : Addr → Prop} {s : Shared} (h : Told T s) (k : ∀ a, T a → T' a) : Told T' s := fun i kk a c p fs cl e => k a (h i kk a c p fs cl e)
theorem TP.mono {l l' : List (Addr × Obj)} (h : ∀ p ∈ l, p ∈ l') : ∀ a, TP l a → TP l' a := fun a ⟨o, m, g⟩ => ⟨o, h _ m, g⟩
theorem told_lulled {T : Addr → Prop} {s : Shared} (h : Told T s) : Told T (lulled s) := fun i k a c p fs cl e => by
  have e' : (s.gens.map lull)[i]? = some (.suspended k [.ref a] c p fs cl) := e
  rw [Array.getElem?_map] at e'
  cases q : s.gens[i]? with
  | none => rw [q] at e'; cases e'
  | some x =>
    rw [q] at e'
    cases x with
    | suspended k2 l2 c2 p2 fs2 cl2 =>
      have e2 := Option.some.inj e'
      injection e2 with _ e3
      subst e3
      exact h i _ a _ _ _ _ q
    | _ => cases e'
theorem told_of_zz {T : Addr → Prop} {G0 : Array GenState} {s sh : Shared} (z : Zz G0 s sh) (h : Told T sh) : Told T s := fun i k a c p fs cl e => by
  have hi : i < sh.gens.size := by rw [← z.zg.sz]; exact (Array.getElem?_eq_some_iff.mp e).1
  rcases z.zg.cases (Array.getElem?_eq_getElem hi) with ⟨k2, l2, c2, p2, fs2, cl2, _, h1, e2⟩ | ⟨_, h1, _⟩
  · rw [e] at h1
    cases h1
    exact h i _ a _ _ _ _ (by rw [Array.getElem?_eq_getElem hi, e2])
  · rw [e] at h1
    exact h i k a c p fs cl (by rw [Array.getElem?_eq_getElem hi]; exact h1.symm)
theorem Inv.other {X : Cx} {pins : List (Addr × Obj)} {σ : L2.St} {H : Hp} {s s' : Shared} (I : Inv X pins σ H s) (hh : s'.heap = s.heap) (ho : s'.os = s.os) (hb : AllBare s'.gens) : Inv X pins σ H s' :=
  ⟨I.ok, ho.trans I.os, hb, by rw [hh]; exact I.base, by rw [hh]; exact I.loc, by rw [hh]; exact I.cell, I.free, I.freeC, by rw [hh]; exact I.pin, by rw [hh]; exact I.hok, I.len⟩
theorem Inv.lulled {X : Cx} {pins : List (Addr × Obj)} {σ : L2.St} {H : Hp} {s : Shared} (I : Inv X pins σ H s) : Inv X pins σ H (Gk.lulled s) := Inv.other I rfl rfl (allBare_lulled I.bare)

structure In1 (X : Cx) (pins : List (Addr × Obj)) (σ : L2.St) (H : Hp) (s : Shared) : Prop where
  inv : Inv X pins σ H s
  told : Told (TP pins) s
section
variable {X : Cx} {pins pins' : List (Addr × Obj)} {σ : L2.St} {H H' : Hp} {s s' sh : Shared} {G0 : Array GenState}
theorem In1.lulled (I : In1 X pins σ H s) : In1 X pins σ H (Gk.lulled s) := ⟨Inv.lulled I.inv, told_lulled I.told⟩
theorem In1.of_zz (z : Zz G0 s sh) (I : In1 X pins σ H sh) : In1 X pins σ H s := ⟨Inv.other I.inv z.heap z.os (allBare_of_zz z I.inv.bare), told_of_zz z I.told⟩
/-- a plain run's end, in the marked machine -/
theorem In1.of_zb (I : In1 X pins σ H s) (z : Zb s.gens s' sh) (J : Inv X pins σ H' sh) : In1 X pins σ H' s' :=
  ⟨Inv.other J z.heap z.os (allBare_of_zb z J.bare), told_of_zb z fun i k a c p fs cl e => I.told i k a c p fs cl e⟩
theorem In1.of_zb' {σ' : L2.St} (I : In1 X pins σ H s) (z : Zb s.gens s' sh) (J : Inv X pins σ' H' sh) : In1 X pins σ' H' s' :=
  ⟨Inv.other J z.heap z.os (allBare_of_zb z J.bare), told_of_zb z fun i k a c p fs cl e => I.told i k a c p fs cl e⟩
end

abbrev Sub (l l' : List (Addr × Obj)) : Prop := ∀ p ∈ l, p ∈ l'
theorem Sub.refl (l : List (Addr × Obj)) : Sub l l := fun _ h => h
theorem Sub.trans {a b c : List (Addr × Obj)} (h : Sub a b) (k : Sub b c) : Sub a c := fun p m => k p (h p m)

def EP1 (X : Cx) (pins : List (Addr × Obj)) (σ : L2.St) (Q : VK) (u : Value) (s' : Shared) : Prop := ∃ pins' v H', Sub pins pins' ∧ In1 X pins' σ H' s' ∧ RelV v u ∧ Q v H'
def TP1 (X : Cx) (pins : List (Addr × Obj)) (σ : L2.St) (Q : Bool → Hp → Prop) (b : Bool) (s' : Shared) : Prop := ∃ pins' H', Sub pins pins' ∧ In1 X pins' σ H' s' ∧ Q b H'
def SP1 (X : Cx) (pins : List (Addr × Obj)) (D : Ends) (f : Flow) (s' : Shared) : Prop :=
  match f with
  | .next => ∃ pins' σ' H', Sub pins pins' ∧ In1 X pins' σ' H' s' ∧ D.nx σ' H'
  | .brk => ∃ pins' σ' H', Sub pins pins' ∧ In1 X pins' σ' H' s' ∧ D.bk σ' H'
  | .cont => ∃ pins' σ' H', Sub pins pins' ∧ In1 X pins' σ' H' s' ∧ D.ct σ' H'
  | .ret u => ∃ pins' v σ' H', Sub pins pins' ∧ In1 X pins' σ' H' s' ∧ RelV v u ∧ D.rt v H'
abbrev Cx.md (X : Cx) : Model := Md X.prog X.w
structure PE1 (X : Cx) (e : Expr) (t : TE) : Prop where
  run : ∀ (pins : List (Addr × Obj)) (s : Shared) (σ : L2.St) (H : Hp) (Q : VK), In1 X pins σ H s → t σ H Q → wpAny (Md X.prog X.w) X.A (eval e X.env) (EP1 X pins σ Q) no s
structure PT1 (X : Cx) (e : Expr) (t : TT) : Prop where
  run : ∀ (pins : List (Addr × Obj)) (s : Shared) (σ : L2.St) (H : Hp) (Q : Bool → Hp → Prop), In1 X pins σ H s → t σ H Q → wpAny (Md X.prog X.w) X.A (isTrue e X.env (eval e X.env)) (TP1 X pins σ Q) no s
structure PS1 (X : Cx) (st : Stmt) (t : TS) : Prop where
  run : ∀ (pins : List (Addr × Obj)) (s : Shared) (σ : L2.St) (H : Hp) (D : Ends), In1 X pins σ H s → t D σ H → wpAny (Md X.prog X.w) X.A (exec st X.env) (SP1 X pins D) no s
structure PSs1 (X : Cx) (st : List Stmt) (t : TS) : Prop where
  run : ∀ (pins : List (Addr × Obj)) (s : Shared) (σ : L2.St) (H : Hp) (D : Ends), In1 X pins σ H s → t D σ H → wpAny (Md X.prog X.w) X.A (execs st X.env) (SP1 X pins D) no s
structure PA1 (X : Cx) (es : List Expr) (t : TA) : Prop where
  run : ∀ (pos : Pos) (pins : List (Addr × Obj)) (s : Shared) (σ : L2.St) (H : Hp) (Q : List V → Hp → Prop), In1 X pins σ H s → t σ H Q →
    wpAny (Md X.prog X.w) X.A (spliced (backTo pos (starEach es X.env))) (fun us s' => ∃ pins' vs H', Sub pins pins' ∧ In1 X pins' σ H' s' ∧ Vals vs us ∧ Q vs H') no s
/-- no exception is wished for -/
abbrev Nox (X : Cx) : Prop := ∀ e s, X.xe e s → False
section
variable {X : Cx}
theorem PE.up {e : Expr} {t : TE} (hx : Nox X) (h : PE X e t) : PE1 X e t := ⟨fun pins s σ H Q I ht =>
  wpAny_mono (wpAny_bb I.inv.bare (h.run pins _ σ H Q (Inv.lulled I.inv) ht)) (fun _ _ ⟨_, sh, z, v, H', J, r, q⟩ => ⟨pins, v, H', .refl _, I.of_zb z J, r, q⟩) fun _ _ ⟨_, sh, _, z⟩ => hx _ _ z⟩
theorem PT.up {e : Expr} {t : TT} (hx : Nox X) (h : PT X e t) : PT1 X e t := ⟨fun pins s σ H Q I ht =>
  wpAny_mono (wpAny_bb I.inv.bare (h.run pins _ σ H Q (Inv.lulled I.inv) ht)) (fun _ _ ⟨_, sh, z, H', J, q⟩ => ⟨pins, H', .refl _, I.of_zb z J, q⟩) fun _ _ ⟨_, sh, _, z⟩ => hx _ _ z⟩
theorem PA.up {es : List Expr} {t : TA} (hx : Nox X) (h : PA X es t) : PA1 X es t := ⟨fun pos pins s σ H Q I ht =>
  wpAny_mono (wpAny_bb I.inv.bare (h.run pos pins _ σ H Q (Inv.lulled I.inv) ht)) (fun _ _ ⟨_, sh, z, vs, H', J, r, q⟩ => ⟨pins, vs, H', .refl _, I.of_zb z J, r, q⟩) fun _ _ ⟨_, sh, _, z⟩ => hx _ _ z⟩
theorem sp_up {pins : List (Addr × Obj)} {σ : L2.St} {H : Hp} {s s' sh : Shared} {D : Ends} {f : Flow} (I : In1 X pins σ H s) (z : Zb s.gens s' sh) (h : SP X pins D f sh) : SP1 X pins D f s' := by
  cases f with
  | next => obtain ⟨σ', H', J, q⟩ := h; exact ⟨pins, σ', H', .refl _, I.of_zb' z J, q⟩
  | brk => obtain ⟨σ', H', J, q⟩ := h; exact ⟨pins, σ', H', .refl _, I.of_zb' z J, q⟩
  | cont => obtain ⟨σ', H', J, q⟩ := h; exact ⟨pins, σ', H', .refl _, I.of_zb' z J, q⟩
  | ret u => obtain ⟨v, σ', H', J, r, q⟩ := h; exact ⟨pins, v, σ', H', .refl _, I.of_zb' z J, r, q⟩
theorem PS.up {st : Stmt} {t : TS} (hx : Nox X) (h : PS X st t) : PS1 X st t := ⟨fun pins s σ H D I ht =>
  wpAny_mono (wpAny_bb I.inv.bare (h.run pins _ σ H D (Inv.lulled I.inv) ht)) (fun _ _ ⟨_, sh, z, q⟩ => sp_up I z q) fun _ _ ⟨_, sh, _, z⟩ => hx _ _ z⟩
theorem PSs.up {st : List Stmt} {t : TS} (hx : Nox X) (h : PSs X st t) : PSs1 X st t := ⟨fun pins s σ H D I ht =>
  wpAny_mono (wpAny_bb I.inv.bare (h.run pins _ σ H D (Inv.lulled I.inv) ht)) (fun _ _ ⟨_, sh, z, q⟩ => sp_up I z q) fun _ _ ⟨_, sh, _, z⟩ => hx _ _ z⟩
/-- the sleepers stay through a marked run -/
theorem PSs1.asleep {st : List Stmt} {t : TS} (h : PSs1 X st t) {pins : List (Addr × Obj)} {s : Shared} {σ : L2.St} {H : Hp} {D : Ends} (I : In1 X pins σ H s) (ht : t D σ H) :
    wpAny (Md X.prog X.w) X.A (execs st X.env) (fun f s' => Asleep s s' ∧ SP1 X pins D f s') no s :=
  wpAny_mono (wpAny_asleep (h.run pins _ σ H D I.lulled ht)) (fun f s' ⟨a, sh, z, q⟩ => ⟨a, by
    cases f with
    | next => obtain ⟨pins', σ', H', u, J, q⟩ := q; exact ⟨pins', σ', H', u, J.of_zz z, q⟩
    | brk => obtain ⟨pins', σ', H', u, J, q⟩ := q; exact ⟨pins', σ', H', u, J.of_zz z, q⟩
    | cont => obtain ⟨pins', σ', H', u, J, q⟩ := q; exact ⟨pins', σ', H', u, J.of_zz z, q⟩
    | ret u => obtain ⟨pins', v, σ', H', u, J, r, q⟩ := q; exact ⟨pins', v, σ', H', u, J.of_zz z, r, q⟩⟩) fun _ _ ⟨_, _, _, z⟩ => z
theorem PE1.asleep {e : Expr} {t : TE} (h : PE1 X e t) {pins : List (Addr × Obj)} {s : Shared} {σ : L2.St} {H : Hp} {Q : VK} (I : In1 X pins σ H s) (ht : t σ H Q) :
    wpAny (Md X.prog X.w) X.A (eval e X.env) (fun u s' => Asleep s s' ∧ EP1 X pins σ Q u s') no s :=
  wpAny_mono (wpAny_asleep (h.run pins _ σ H Q I.lulled ht)) (fun u s' ⟨a, sh, z, pins', v, H', u, J, r, q⟩ => ⟨a, pins', v, H', u, J.of_zz z, r, q⟩) fun _ _ ⟨_, _, _, z⟩ => z
theorem PT1.asleep {e : Expr} {t : TT} (h : PT1 X e t) {pins : List (Addr × Obj)} {s : Shared} {σ : L2.St} {H : Hp} {Q : Bool → Hp → Prop} (I : In1 X pins σ H s) (ht : t σ H Q) :
    wpAny (Md X.prog X.w) X.A (isTrue e X.env (eval e X.env)) (fun u s' => Asleep s s' ∧ TP1 X pins σ Q u s') no s :=
  wpAny_mono (wpAny_asleep (h.run pins _ σ H Q I.lulled ht)) (fun u s' ⟨a, sh, z, pins', H', u, J, q⟩ => ⟨a, pins', H', u, J.of_zz z, q⟩) fun _ _ ⟨_, _, _, z⟩ => z
theorem SP1.sub {pins pins' : List (Addr × Obj)} {D : Ends} {f : Flow} {s' : Shared} (hs : Sub pins pins') (h : SP1 X pins' D f s') : SP1 X pins D f s' := by
  cases f with
  | next => obtain ⟨p2, σ', H', u, r⟩ := h; exact ⟨p2, σ', H', hs.trans u, r⟩
  | brk => obtain ⟨p2, σ', H', u, r⟩ := h; exact ⟨p2, σ', H', hs.trans u, r⟩
  | cont => obtain ⟨p2, σ', H', u, r⟩ := h; exact ⟨p2, σ', H', hs.trans u, r⟩
  | ret u => obtain ⟨p2, v, σ', H', u, r⟩ := h; exact ⟨p2, v, σ', H', hs.trans u, r⟩
/-! ### blocks -/
theorem pss_nil1 : PSs1 X [] tNext := ⟨fun pins _ σ H _ I h => wpAny_execs_nil ⟨pins, σ, H, .refl _, I, h⟩⟩
theorem pss_cons1 {st : Stmt} {rest : List Stmt} {t u : TS} (h1 : PS1 X st t) (h2 : PSs1 X rest u) : PSs1 X (st :: rest) (tSeq t u) := by
  refine ⟨fun pins s σ H D I h => wpAny_execs_cons (thn (h1.run pins s σ H { D with nx := u D } I h) fun f s1 q => ?_)⟩
  cases f with
  | next =>
    obtain ⟨pins', σ', H', hs, I', q⟩ := q
    exact thn (h2.run pins' s1 σ' H' D I' q) fun f s2 q2 => q2.sub hs
  | ret v => exact q
  | brk => exact q
  | cont => exact q
theorem pss_one1 {st : Stmt} {t : TS} (h1 : PS1 X st t) : PSs1 X [st] t := by
  refine ⟨fun pins s σ H D I h => wpAny_execs_cons (thn (h1.run pins s σ H D I h) fun f s1 q => ?_)⟩
  cases f with
  | next => exact wpAny_execs_nil q
  | ret v => exact q
  | brk => exact q
  | cont => exact q
theorem ps_ret1 {e : Expr} {te : TE} {pos : Pos} (he : PE1 X e te) : PS1 X (.Return (some e) pos) (tRet te) :=
  ⟨fun pins s σ H D I h => wpAny_Return_some (thn (he.run pins s σ H _ I h) fun v s1 ⟨pins', x, H1, hs, I1, r1, q1⟩ => ⟨pins', x, σ, H1, hs, I1, r1, q1⟩)⟩
theorem ps_if1 {c : Expr} {a b : List Stmt} {pos : Pos} {tc : TT} {t u : TS} (hc : PT1 X c tc) (ha : PSs1 X a t) (hb : PSs1 X b u) : PS1 X (.If c a b pos) (tIfS tc t u) := by
  refine ⟨fun pins s σ H D I h => wpAny_If (thn (hc.run pins s σ H _ I h) fun d s1 ⟨pins', H1, hs, I1, q1⟩ => ?_)⟩
  cases d with
  | true => exact thn (ha.run pins' s1 σ H1 D I1 q1) fun f s2 q2 => q2.sub hs
  | false => exact thn (hb.run pins' s1 σ H1 D I1 q1) fun f s2 q2 => q2.sub hs
/-- an expression whose value is a bool, as a test -/
theorem pt_val1 {e : Expr} {t : TE} (h : PE1 X e t) (he : ∀ whole, isTrue e X.env whole = (do let v ← whole; standAt e.pos; holding [v] (truthy v)) := by intro _; rfl) : PT1 X e (tB t) := by
  refine ⟨fun pins s σ H Q I hw => isTrue_plain (thn (h.run pins s σ H _ I hw) fun v s1 ⟨pins', x, H1, hs, I1, r1, q1⟩ => ?_) (he _)⟩
  obtain ⟨d, rfl, q⟩ := q1
  cases r1
  exact wpAny_truthy_bool ⟨pins', H1, hs, I1, q⟩
theorem pt_not1 {a : Expr} {pos : Pos} {tA : TT} (ha : PT1 X a tA) : PT1 X (.UnaryOp .Not a pos) (tNot tA) :=
  ⟨fun pins s σ H Q I h => isTrue_not (ha.run pins s σ H (fun c H1 => Q (!c) H1) I h)⟩
end
end Gk
/-! From the marked machine to the claim: own forms of the kit's heads. -/
namespace Gk
open PySem PySem.W PySem.Calls PyProof.Rows
open Sem (wp)

theorem thread_ends1 {P : Program} {w : World} {t : Sem PySem.Fin} {s : Shared} {R : Result → Shared → Prop} (hreg : s.asleep) (hg : s.gens = #[])
    (h : wpAny (Md P w) callerA t (fun fin s' => ∃ f, fin = .done f ∧ R (.ok f) s' ∧ Alive s' ∧ AllBare s'.gens) (fun e s' => R (.error e) s' ∧ Alive s' ∧ AllBare s'.gens) s) :
    ∃ n r s' s2, schedN (denote table) P w n (.single s ⟨t, .builtin "claim.caller" {}, default, []⟩) = .halted (outcomeOf r) s2 ∧ s2.heap = s'.heap ∧ s2.os = s'.os ∧ s'.heap.life = s.heap.life ∧ R r s' := by
  have h1 : wpAny (Md P w) callerA (uy (.builtin "claim.caller" {}) t) (fun fin s' => ∃ f, fin = .done f ∧ ((R (.ok f) s' ∧ Alive s') ∧ leftWithCleanup s'.gens = false)) (fun e s' => (R (.error e) s' ∧ Alive s') ∧ leftWithCleanup s'.gens = false) s :=
    wpAny_uy (wpAny_mono h (fun fin s' ⟨f, e, a, b, c⟩ => ⟨f, e, ⟨a, b⟩, leftWithCleanup_false_of_bare c⟩) fun e s' ⟨a, b, c⟩ => ⟨⟨a, b⟩, leftWithCleanup_false_of_bare c⟩)
  obtain ⟨n, r, s', hn, hR, hA⟩ := (wp_iff_halts (M := Md P w) _ (fun r s' => R r s' ∧ Alive s') default s).mp (wp_of_wpAny_done (R := fun r s' => (R r s' ∧ Alive s') ∧ leftWithCleanup s'.gens = false) caller_in h1 default)
  have hn' : runNI den' P w n (uyS s) (uyT ⟨t, .builtin "claim.caller" {}, default, []⟩) = .halted (outcomeOf r) s' := by
    have e : uyS s = s := by unfold uyS; rw [hg]; obtain ⟨a, b, c, d, e⟩ := s; subst hg; simp
    rw [e]
    exact hn
  have wf : Wf s.gens := fun i x e => by rw [hg] at e; simp at e
  obtain ⟨m, s2, hs, eh, eo⟩ := sim (outcomeOf_ends r) hA n s _ hreg wf hn'
  obtain ⟨s3, hr3, hf3, _⟩ := runNI_real (Md P w).den (Md P w).prog (Md P w).w hn (outcomeOf_ends r)
  obtain ⟨eh3, _⟩ := Shared.forget_eq hf3
  exact ⟨m, r, s', s2, hs, eh, eo, by rw [← eh3]; exact runN_life _ _ _ hr3, hR⟩

theorem callFrom1 {c : ClaimW} {tree : List Value → Sem PySem.Fin} {w : World} {s : Shared} {free : Addr → Prop} {gens : Prop} {kept : Heap → Prop} (hz : s.asleep) (hgens : s.gens = #[])
    (spec : ∀ args, c.pre args = true → WData.layableAll args = true → ∀ ord : List DictEntry → List DictEntry, (∀ l, (ord l).Perm l) → ∃ vs s1, layAllW c.records (classAt s.heap) w.params ord args s = some (vs, s1) ∧
        wpAny (Md c.prog w) callerA (tree vs) (fun fin s' => ∃ f, fin = .done f ∧ (c.Ends s args vs s1 (.ok f) s' ∧ s'.os = s.os ∧ kept s'.heap) ∧ Alive s' ∧ AllBare s'.gens)
          (fun e s' => (c.Ends s args vs s1 (.error e) s' ∧ s'.os = s.os ∧ kept s'.heap) ∧ Alive s' ∧ AllBare s'.gens) s1) :
    c.CallFrom (fun vs => ⟨tree vs, .builtin "claim.caller" {}, default, []⟩) w free gens kept s := by
  intro args hpre hlay ord hord
  obtain ⟨vs, s1, laid, hcode⟩ := spec args hpre hlay ord hord
  have hal := layAllW_rest _ _ _ laid
  obtain ⟨k, r, s', s2, sched, eh, eo, life, hcase, hos, hkp⟩ := thread_ends1 (P := c.prog) (w := w) (t := tree vs) (s := s1) (R := fun r s' => c.Ends s args vs s1 r s' ∧ s'.os = s.os ∧ kept s'.heap)
    (Shared.asleep_of_life hal.2.2.2 hz) (hal.1.trans hgens) hcode
  have hcase2 := ClaimW.Ends.congr eh hcase
  have kp2 : kept s2.heap := by rw [eh]; exact hkp
  have os2 : s2.os = s.os := eo.trans hos
  have life2 : s2.heap.life = s.heap.life := by rw [eh]; exact life.trans hal.2.2.2
  refine ⟨vs, s1, laid, k, _, s2, sched, ?_, (fun _ i x hx => by rw [hgens] at hx; simp at hx), kp2, by rw [life2], Shared.rest_eq os2⟩
  rcases hcase2 with ⟨v, rfl, d1, d2, d3, d4, d5⟩ | ⟨e, ob, cls, rfl, d1, d2, d3, d4, d5⟩
  · exact .inl ⟨v, rfl, d1, d2, d3, fun b o y _ => d4 b o y, d5⟩
  · exact .inr ⟨e, ob, cls, rfl, d1, d2, d3, d4, fun b o y _ => d5 b o y⟩

/-- what the walk must show, in the marked machine -/
abbrev Walk1 (q : Program) (loose : List Str) (XP : (Str → Option Value) → Heap → Prop) (YP : World → Heap → Prop) (r : RowW) (d : DefRec) (kwd : List (Str × Expr)) : Prop :=
  ∀ (w : World) (s0 s1 : Shared) (mg mb : Str → Option Value), Ground q loose r.records XP w s0 mg mb s1.heap → YP w s1.heap → ∀ (a : Addr) (o : Obj) (pm cd doc dV kV : Value), s1.heap.get? a = some o →
    o.data = .func { docDef d.name d.params d.body d.scope pm cd doc with defaults := dV, kwdefaults := kV } → s1.heap.CodeRec cd d.name → Dflts mg s1.heap d.params kwd dV kV → mg d.name = some (.ref a) → s1.gens = #[] →
    ∀ (args : List WData) (vals : List Value) (as : List Addr), r.claim.pre args = true → WData.layableAll args = true → ReadsAllW r.records (classAt s0.heap) s1.heap vals args as → WellAll w.params s1.heap vals args → (∀ a ∈ as, (a == sysModules) = false) →
      wpAny (Md r.prog w) callerA (PySem.call (.ref a) vals) (fun v s' => GoodWG r.claim (classAt s0.heap) (ExcName.means s0.heap) args s1 (.ok (.ret v)) s' ∧ Alive s') no s1
theorem holds1 {r : OpenRow} {q : Program} {loose : List Str} {Xt : Shared → Bool} {XP : (Str → Option Value) → Heap → Prop} {α : Type} {Yf : Shared → α} {Ya : World → α} {YP : World → Heap → Prop} {d : DefRec} {kwd : List (Str × Expr)} {N : Nat}
    (left : LeftO r.prog q loose Xt Yf Ya N) (hY : ∀ w s, Yf s = Ya w → YP w s.heap) (hYk : ∀ w h h', YP w h → (∀ b o, h.get? b = some o → h'.get? b = some o) → YP w h')
    (hX : ∀ s, Xt s = true → XP (s.heap.nsMap mainGlobals) s.heap) (hXk : ∀ mg h h', XP mg h → (∀ b o, h.get? b = some o → h'.get? b = some o) → XP mg h')
    (hdef : defOf q r.name = some (d, kwd)) (hp : r.prog.theDef r.name = some (d.params, d.body, d.scope)) (hk : kwWritten? d.params.kwonlyargs d.params.kw_defaults = some kwd) (hRf : ∀ s, Xt s = true → RecFacts r.records s.heap) (hwr : (!r.writes || r.records.isEmpty) = true)
    (k1 : r.wellSaid = true) (ok : (chainsOk q && opensWell r.prog && (frees r.toRowW && r.within.isEmpty)) = true) (hb : r.prog.bare) (hw : r.toRowW.promised)
    (walk : Walk1 q loose XP YP r.toRowW d kwd) : r.Holds := by
  obtain ⟨ok, k5⟩ := Bool.and_eq_true_iff.mp ok
  obtain ⟨hch, o1⟩ := Bool.and_eq_true_iff.mp ok
  obtain ⟨k5, k6⟩ := Bool.and_eq_true_iff.mp k5
  obtain ⟨hsame, hu, ha, hap, hm⟩ := frees_parts k5
  refine ⟨k1, hw, ⟨hb, o1, by show r.toRowW.makers.map _ = []; rw [hm]; rfl⟩, hw.witness, fun w => ⟨(left.behind hX hch w).1, fun s' hs' => ?_⟩⟩
  obtain ⟨s0, hf, hg0, s, hT, hz, hgens, hg, G00, y⟩ := (left.behind (XP := fun mg h => XP mg h ∧ RecFacts r.records h) (fun s hs => ⟨hX s hs, hRf s hs⟩) hch w).2 s' hs'
  have G0 : Ground q loose [] XP w s (s.heap.nsMap mainGlobals) (s.heap.nsMap builtinsNs) s.heap := ⟨G00.T, G00.B, G00.D, G00.TE, G00.TD, G00.W, G00.X.1, G00.cls, G00.has, G00.apart, G00.once, G00.K⟩
  have RF := G00.X.2
  have hT' := hT
  refine ⟨s0, hf, hg0, s, hT, fun n hn => ?_, RF.1, RF.2.1, ?_⟩
  · obtain rfl : n = r.name := by split at hn <;> simp_all
    exact pinned_of_view hg G0 hdef hp hk
  have hgens : s.gens = #[] := Array.eq_empty_of_size_eq_zero (beq_iff_eq.mp hgens)
  have G : Ground q loose r.records XP w s _ _ s.heap := RF.ground G0
  refine callFrom1 (c := r.toRowW.claim) hz hgens fun args hpre hlay ord hord => ?_
  obtain ⟨⟨vs, s1⟩, laid⟩ := Option.isSome_iff_exists.mp (layAllW_isSome (P := w.params) (ord := ord) G.has args r.toRowW.args s (pre_splitW hpre).1)
  have keeps := layAllW_keeps _ _ _ laid
  have hal := layAllW_rest _ _ _ laid
  obtain ⟨as, hrd, hin, hold⟩ := reads_layAllW hord _ _ _ laid hlay s1.heap (fun _ _ e => e)
  have L : Laid r.records w s s1 args vs as := ⟨⟨ord, hord, laid⟩, hrd, hin, hold, keeps, hal.1.trans hgens, hal.2.2.1⟩
  have G1 := G.keeps hXk keeps
  obtain ⟨a, o, pm, cd, doc, dV, kV, h1, h2, h3, h4, h5⟩ := G1.fn hdef
  have run := walk w s s1 _ _ G1 (hYk _ _ _ (hY w s y) keeps) a o pm cd doc dV kV h2 h3 h4 h5 (defOf_name hdef ▸ h1) L.gens args vs as hpre hlay L.reads L.well (L.low G.low)
  have hi := ident_freeW hu ha hap
  have hwi : r.toRowW.claim.within = [] := List.isEmpty_iff.mp k6
  refine ⟨vs, s1, laid, wpAny_bind (wpAny_nsGet G1.T.g ?_)⟩
  rw [h1]
  refine wpAny_bind (wpAny_mono run (fun v s' ⟨g, al⟩ => wpAny_pure ⟨_, rfl, ?_⟩) fun _ _ z => z.elim)
  have z := g.laid (c := r.toRowW.claim) hsame hwi hi L
  exact ⟨⟨z.1, z.2.1, fun q => ⟨namesKept_of hT' hg _ keeps g.2.1.old, noTable hwr q⟩⟩, al, z.2.2⟩
end Gk
/-! One stretch of a generator's run in the marked machine, from a wake to its next yield or its end. -/
namespace Gk
open PySem PySem.Spec PyProof.Rows L2
open Sem (wp)

abbrev Fi := End → Shared → Prop
def Sg (P : Program) (w : World) (Ph : Fi) (A : Around) (c : Code) (t : Sem PySem.Fin) (fs : List Frame) (s : Shared) : Prop :=
  ∀ Ga p, Ga.code = c → Ga.Woken A → ∃ e s', Runs (Md P w) Ga p (uy c t) (fs.map uyF) s e s' ∧ Ph e s'

section
variable {P : Program} {w : World} {Ph : Fi} {A : Around} {c : Code} {fs : List Frame} {s : Shared}
theorem sg_runs {α : Type} {Ga : PySem.Ctx} {c : Code} {gs : List Frame} {M : Model} (K : α → Sem PySem.Fin) (J : Value → Sem PySem.Fin) (gd : Bool → Bool) (lv : List Value → List Value) (m : Sem α) :
    ∀ {Q : α → Pos → Shared → Prop} {E : Value → Pos → Shared → Prop} {p : Pos} {s : Shared}, wp M (Ga.over gs) m Q E p s →
      (∀ a p' s', Q a p' s' → ∃ e s2, Runs M Ga p' (uy c (K a)) gs s' e s2 ∧ Ph e s2) → (∀ x p' s', E x p' s' → ∃ e s2, Runs M Ga p' (uy c (J x)) gs s' e s2 ∧ Ph e s2) →
      ∃ e s2, Runs M Ga p (uy c (m.wrap K J gd lv)) gs s e s2 ∧ Ph e s2 := by
  induction m with
  | pure a => intro Q E p s h hQ _; exact hQ a p s h
  | raise x => intro Q E p s h _ hE; exact hE x p s h
  | unsupported _ => intro Q E p s h; exact h.elim
  | finish _ => intro Q E p s h; exact h.elim
  | register _ _ => intro Q E p s h; exact h.elim
  | yield _ _ _ _ => intro Q E p s h; exact h.elim
  | fork _ _ => intro Q E p s h; exact h.elim
  | await _ _ _ _ _ => intro Q E p s h; exact h.elim
  | rule tag k ih => intro Q E p s h a b; obtain ⟨e, s2, r, z⟩ := ih () h a b; exact ⟨e, s2, Runs.head' (fun _ _ x => Runs.rule x) r, z⟩
  | «at» p' k ih => intro Q E p s h a b; obtain ⟨e, s2, r, z⟩ := ih () h a b; exact ⟨e, s2, Runs.head' (fun _ _ x => Runs.at x) r, z⟩
  | load ad part k ih => intro Q E p s h a b; obtain ⟨o, ho, h⟩ := h; obtain ⟨e, s2, r, z⟩ := ih o h a b; exact ⟨e, s2, Runs.head' (fun _ _ x => Runs.load ho x) r, z⟩
  | update ad part f k ih => intro Q E p s h a b; obtain ⟨ha, h⟩ := h; obtain ⟨e, s2, r, z⟩ := ih () h a b; exact ⟨e, s2, Runs.head' (fun _ _ x => Runs.update ha x) r, z⟩
  | alloc o k ih => intro Q E p s h a b; obtain ⟨e, s2, r, z⟩ := ih _ h a b; exact ⟨e, s2, Runs.head' (fun _ _ x => Runs.alloc x) r, z⟩
  | loadIfAlive ad k ih => intro Q E p s h a b; obtain ⟨e, s2, r, z⟩ := ih _ h a b; exact ⟨e, s2, Runs.head' (fun _ _ x => Runs.loadIfAlive x) r, z⟩
  | point l k ih => intro Q E p s h a b; obtain ⟨e, s2, r, z⟩ := ih () h a b; exact ⟨e, s2, Runs.head' (fun _ _ x => Runs.point x) r, z⟩
  | fresh k ih => intro Q E p s h a b; obtain ⟨e, s2, r, z⟩ := ih _ h a b; exact ⟨e, s2, Runs.head' (fun _ _ x => Runs.fresh x) r, z⟩
  | ask k ih => intro Q E p s h a b; obtain ⟨e, s2, r, z⟩ := ih _ h a b; exact ⟨e, s2, Runs.head' (fun _ _ x => Runs.ask x) r, z⟩
  | choose src n k ih => intro Q E p s h a b; obtain ⟨hn, h⟩ := h; obtain ⟨e, s2, r, z⟩ := ih _ h a b; exact ⟨e, s2, Runs.head' (fun _ _ x => Runs.choose hn x) r, z⟩
  | os q l k ih => intro Q E p s h a b; obtain ⟨e, s2, r, z⟩ := ih _ h a b; exact ⟨e, s2, Runs.head' (fun _ _ x => Runs.os x) r, z⟩
  | call c' h' g l k ih => intro Q E p s h a b; obtain ⟨rr, s1, hr, h⟩ := h; obtain ⟨e, s2, r, z⟩ := ih rr h a b; exact ⟨e, s2, Runs.head' (fun _ _ x => Runs.call hr x) r, z⟩
  | handled own k ih => intro Q E p s h a b; obtain ⟨e, s2, r, z⟩ := ih _ h a b; exact ⟨e, s2, Runs.head' (fun _ _ x => Runs.handled x) r, z⟩
  | newGen c' k ih => intro Q E p s h a b; obtain ⟨e, s2, r, z⟩ := ih _ h a b; exact ⟨e, s2, Runs.head' (fun _ _ x => Runs.newGen x) r, z⟩
  | genState g k ih => intro Q E p s h a b; obtain ⟨st, hg, h⟩ := h; obtain ⟨e, s2, r, z⟩ := ih _ h a b; exact ⟨e, s2, Runs.head' (fun _ _ x => Runs.genState hg x) r, z⟩
  | resume g rr l k ih =>
    intro Q E p s h a b; obtain ⟨res, s1, hw, h⟩ := h; obtain ⟨e, s2, r, z⟩ := ih res h a b
    exact ⟨e, s2, Runs.head' (fun _ _ x => (Sem.runs_resume_iff _ _).mpr ⟨res, s1, hw, x⟩) r, z⟩
  | stack k ih => intro Q E p s h a b; obtain ⟨e, s2, r, z⟩ := ih _ h a b; exact ⟨e, s2, Runs.head' (fun _ _ x => Runs.stack x) r, z⟩
  | thread k ih => intro Q E p s h a b; obtain ⟨e, s2, r, z⟩ := ih _ h a b; exact ⟨e, s2, Runs.head' (fun _ _ x => Runs.thread x) r, z⟩

theorem sg_wrap {α : Type} {m : Sem α} {K : α → Sem PySem.Fin} {J : Value → Sem PySem.Fin} {gd : Bool → Bool} {lv : List Value → List Value}
    (h : wpAny (Md P w) (A.over c fs) m (fun a s' => Sg P w Ph A c (K a) fs s') (fun x s' => Sg P w Ph A c (J x) fs s') s) : Sg P w Ph A c (m.wrap K J gd lv) fs s := by
  rintro Ga p rfl hG
  refine sg_runs (Q := fun a _ s' => Sg P w Ph A Ga.code (K a) fs s') (E := fun x _ s' => Sg P w Ph A Ga.code (J x) fs s') K J gd lv m ?_ (fun a p' s' h' => h' Ga p' rfl hG) (fun x p' s' h' => h' Ga p' rfl hG)
  rw [uyF_over]
  exact h (Ga.over fs) p (hG.over fs)
theorem sg_bind {α : Type} {m : Sem α} {K : α → Sem PySem.Fin}
    (h : wpAny (Md P w) (A.over c fs) m (fun a s' => Sg P w Ph A c (K a) fs s') (fun x s' => Sg P w Ph A c (.raise x) fs s') s) : Sg P w Ph A c (m >>= K) fs s := by
  rw [Sem.bind_eq_wrap']; exact sg_wrap h
theorem sg_bindw {α β : Type} {m : Sem α} {K : α → Sem β} {K2 : β → Sem PySem.Fin} {J : Value → Sem PySem.Fin} {gd : Bool → Bool} {lv : List Value → List Value}
    (h : wpAny (Md P w) (A.over c fs) m (fun a s' => Sg P w Ph A c ((K a).wrap K2 J gd lv) fs s') (fun x s' => Sg P w Ph A c (J x) fs s') s) : Sg P w Ph A c ((m >>= K).wrap K2 J gd lv) fs s := by
  rw [Sem.bind_eq_wrap', Sem.wrap_wrap]; exact sg_wrap h
theorem sg_bindw2 {α β γ : Type} {m : Sem α} {f : α → Sem β} {f2 : β → Sem γ} {K : γ → Sem PySem.Fin} {J : Value → Sem PySem.Fin} {gd : Bool → Bool} {lv : List Value → List Value}
    (h : wpAny (Md P w) (A.over c fs) m (fun a s' => Sg P w Ph A c ((f a).wrap (fun b => (f2 b).wrap K J gd lv) J gd lv) fs s') (fun x s' => Sg P w Ph A c (J x) fs s') s) :
    Sg P w Ph A c (((m >>= f) >>= f2).wrap K J gd lv) fs s := by
  rw [Sem.bind_eq_wrap' (m >>= f) f2, Sem.wrap_wrap]
  exact sg_bindw h
theorem sg_at {p' : Pos} {k : Unit → Sem PySem.Fin} (h : Sg P w Ph A c (k ()) fs s) : Sg P w Ph A c (.at p' k) fs s :=
  sg_wrap (m := standAt p') (K := k) (J := .raise) (gd := id) (lv := id) (wpAny_standAt h)
theorem sg_point {l : List Value} {k : Unit → Sem PySem.Fin} (h : Sg P w Ph A c (k ()) fs s) : Sg P w Ph A c (.point l k) fs s :=
  sg_wrap (m := point) (K := k) (J := .raise) (gd := id) (lv := fun _ => l) (wpAny_point h)
theorem sg_rule {tag : String} {k : Unit → Sem PySem.Fin} (h : Sg P w Ph A c (k ()) fs s) : Sg P w Ph A c (.rule tag k) fs s :=
  sg_wrap (m := rule tag) (K := k) (J := .raise) (gd := id) (lv := id) (wpAny_rule h)
theorem sg_call {c' : Code} {h : Option Value} {g : Bool} {l : List Value} {k : Result → Sem PySem.Fin} (hc : ∀ p, Sg P w Ph A c' (denote table c') (.ret k h g l c p [] :: fs) s) : Sg P w Ph A c (.call c' h g l k) fs s := by
  rintro Ga p rfl hG
  obtain ⟨e, s', hr, he⟩ := hc p (Ga.goto c') p rfl (hG.goto c')
  exact ⟨e, s', runs_call_seg (M := Md P w) hr, he⟩
theorem uy_leafOf (c : Code) (r : Result) : uy c (leafOf r) = leafOf r := by cases r <;> rfl
theorem sg_leaf {k : Result → Sem PySem.Fin} {h : Option Value} {g : Bool} {l kp : List Value} {c1 : Code} {p1 : Pos} (r : Result) (hk : Sg P w Ph A c1 (k r) fs s) : Sg P w Ph A c (leafOf r) (.ret k h g l c1 p1 kp :: fs) s := by
  rintro Ga p rfl hG
  obtain ⟨e, s', hr, he⟩ := hk (Ga.goto c1) p1 rfl (hG.goto c1)
  refine ⟨e, s', ?_, he⟩
  rw [uy_leafOf]
  exact Runs.pop (k := fun r => uy c1 (k r)) r hr
theorem sg_again {c' : Code} (hq : c'.quiet = true) (hc : Sg P w Ph A c' (denote table c') fs s) : Sg P w Ph A c (.pure (.again c')) fs s := by
  rintro Ga p rfl hG
  obtain ⟨e, s', hr, he⟩ := hc (Ga.goto c') p rfl (hG.goto c')
  exact ⟨e, s', Runs.head (c₁ := c') (fun _ _ x => Runs.again hq x) hr, he⟩
theorem sg_end (r : Result) (h : Ph (.ret r) s) : Sg P w Ph A c (leafOf r) [] s := by
  rintro Ga p rfl _
  rw [uy_leafOf]
  exact ⟨.ret r, s, Runs.leaf r, h⟩
/-- a yield that nothing guards -/
theorem sg_yield {v : Value} {g : Bool} {l : List Value} {k : Resume → Sem PySem.Fin} (hfs : splitAtGen fs = none) (hg : g = false) (h : ∀ p, Ph (.susp v false [] (fun r => uy c (k r)) c p (fs.map uyF)) s) : Sg P w Ph A c (.yield v g l k) fs s := by
  rintro Ga p rfl _
  subst hg
  exact ⟨_, s, Runs.yield' _ (uyF_splitNone hfs), h p⟩
/-- the guarded yield over a generator -/
theorem sg_yieldG {v : Value} {a : Addr} {o : Obj} {l : List Value} {k : Resume → Sem PySem.Fin} (hc : yTo c = some a) (ho : s.heap.get? a = some o) (hi : isG o = true) (hfs : splitAtGen fs = none)
    (h : ∀ p, Ph (.susp v false [.ref a] (fun r => uy c (k r)) c p (fs.map uyF)) s) : Sg P w Ph A c (.yield v true l k) fs s := by
  rintro Ga p rfl _
  refine ⟨_, s, ?_, h p⟩
  show Runs (Md P w) Ga p (uyY Ga.code v true fun x => uy Ga.code (k x)) (fs.map uyF) s _ s
  unfold uyY
  rw [if_pos rfl, hc]
  refine Runs.head' (fun _ _ x => Runs.load ho x) ?_
  rw [if_pos hi]
  exact Runs.yield' _ (uyF_splitNone hfs)

/-! ### statements -/
variable {env : Env} {K : Flow → Sem PySem.Fin} {J : Value → Sem PySem.Fin} {gd : Bool → Bool} {lv : List Value → List Value}
theorem sg_nil (h : Sg P w Ph A c (K .next) fs s) : Sg P w Ph A c ((execs [] env).wrap K J gd lv) fs s := h
theorem sg_cons {st : Stmt} {rest : List Stmt} (h : Sg P w Ph A c ((exec st env).wrap (fun f => match f with | .next => (execs rest env).wrap K J gd lv | f => K f) J gd lv) fs s) :
    Sg P w Ph A c ((execs (st :: rest) env).wrap K J gd lv) fs s := by rw [execs_cons_wrap]; exact h
theorem sg_if {test : Expr} {body orelse : List Stmt} {pos : Pos}
    (h : wpAny (Md P w) (A.over c fs) (isTrue test env (eval test env)) (fun b s' => if b = true then Sg P w Ph A c ((execs body env).wrap K J gd lv) fs s' else Sg P w Ph A c ((execs orelse env).wrap K J gd lv) fs s') (fun x s' => Sg P w Ph A c (J x) fs s') s) :
    Sg P w Ph A c ((exec (.If test body orelse pos) env).wrap K J gd lv) fs s := by
  rw [exec_If]
  refine sg_bindw (m := standAt pos) (wpAny_standAt ?_)
  refine sg_bindw (wpAny_mono h (fun b s' hb => ?_) fun _ _ z => z)
  cases b with
  | true => exact hb
  | false => exact hb
theorem sg_yieldS {e : Expr} {yp pos : Pos} (hfs : splitAtGen fs = none) (hgd : gd false = false)
    (h : wpAny (Md P w) (A.over c fs) (eval e env) (fun v s' => ∀ (p : Pos) (k : Resume → Sem PySem.Fin), (∀ x : Value, (match x with | .ref _ => True | _ => k (.send x) = K .next)) → Ph (.susp v false [] (fun r => uy c (k r)) c p (fs.map uyF)) s') (fun x s' => Sg P w Ph A c (J x) fs s') s)
    (hco : env.scope.isCoroutine = false := by rfl) (hi : interactive env = false := by rfl) : Sg P w Ph A c ((exec (.Expr (.Yield (some e) yp) pos) env).wrap K J gd lv) fs s := by
  rw [exec_Expr env _ pos hi rfl]
  show Sg P w Ph A c (.at pos fun _ => ((eval e env >>= fun v => (standAt yp >>= fun _ => yieldOut env v)) >>= fun x => dropValue (.Yield (some e) yp) pos x).wrap K J gd lv) fs s
  have hy : ∀ v, yieldOut env v = yieldValue v := fun v => by simp only [yieldOut, hco, Bool.false_eq_true, if_false]
  simp only [hy]
  refine sg_at (sg_bindw2 (wpAny_mono h (fun v s' h' => ?_) fun _ _ z => z))
  refine sg_at (sg_yield hfs hgd fun p => h' p _ fun x => ?_)
  cases x <;> first | trivial | rfl
end
end Gk
/-! Waking a generator of the marked machine. -/
namespace Gk
open PySem PySem.Spec PyProof.Rows L2
open Sem (wp)

/-- a generator's object; nobody sleeps over it -/
structure Gen0 (o : Obj) (g : Nat) : Prop where
  cls : o.cls = .type "generator"
  data : ∃ nm qn, o.data = .fields #[.int g 0, nm, qn]
  sl : o.slots = #[] ∨ o.slots = #[some (.int 0 0)]
theorem Gen0.isG {o : Obj} {g : Nat} (h : Gen0 o g) : isG o = true := by
  obtain ⟨hc, ⟨nm, qn, hd⟩, _⟩ := h
  unfold Gk.isG Obj.genNumber?
  rw [hc, hd]; rfl
theorem Gen0.typeIs {o : Obj} {g : Nat} {s : Shared} {a : Addr} (h : Gen0 o g) (e : s.heap.get? a = some o) : s.TypeIs (.ref a) "generator" := ⟨o, e, h.cls⟩

section
variable {P : Program} {w : World} {Ph : Fi} {A : Around} {s : Shared} {E : Value → Shared → Prop}
theorem wpAny_genNo {M : Model} {a : Addr} {g : Nat} {o : Obj} {Q : Nat → Shared → Prop} (ho : s.heap.get? a = some o) (hg : Gen0 o g) (h : Q g s) : wpAny M A (Builtin.Generator.genNumber (.ref a)) Q E s := by
  obtain ⟨_, ⟨nm, qn, hd⟩, hs⟩ := hg
  unfold Builtin.Generator.genNumber
  refine wpAny_bind (wpAny_load ho ?_)
  rcases hs with hs | hs
  · rw [hs, hd]
    show wpAny M A (pure ((g : Int).toNat)) Q E s
    rw [Int.toNat_natCast]; exact wpAny_pure h
  · rw [hs, hd]
    show wpAny M A (pure ((g : Int).toNat)) Q E s
    rw [Int.toNat_natCast]; exact wpAny_pure h

/-- an entry that goes on so -/
def Going (P : Program) (w : World) (Ph : Fi) (A : Around) (gs : GenState) (s : Shared) : Prop :=
  match gs with
  | .fresh c => Sg P w Ph A c (denote table c) [] s
  | .suspended k _ c _ fs _ => ∃ (kk : Resume → Sem PySem.Fin) (fs0 : List Frame), k = (fun r => uy c (kk r)) ∧ fs = fs0.map uyF ∧ Sg P w Ph A c (kk (.send .none)) fs0 s
  | _ => False
theorem md_resume {g : Nat} {gs : GenState} {l : List Value} {α : Type} {k : GenResult → Sem α} {Q : α → Shared → Prop} (hg : s.gens[g]? = some gs) (hgo : Going P w Ph A gs (s.setGen g .running))
    (hPh : ∀ e s1, Ph e s1 → s.gens.size ≤ s1.gens.size → e.quiet = true ∧ wpAny (Md P w) A (k e.result) Q E (s1.setGen g e.genState)) : wpAny (Md P w) A (.resume g (.send .none) l k) Q E s := by
  intro Ga p hG
  rw [Sem.wp_resume]
  cases gs with
  | fresh c =>
    obtain ⟨e, s1, hr, he⟩ := (show Sg P w Ph A c (denote table c) [] _ from hgo) (Ga.wake c p) p rfl (hG.wake c p)
    have hz := GenW.runs_gsz hr
    rw [GenW.setGen_size] at hz
    obtain ⟨hq, hk⟩ := hPh e s1 he hz
    exact ⟨_, _, by unfold Wakes; rw [hg]; exact ⟨e, s1, hr, hq, rfl, rfl⟩, hk Ga p hG⟩
  | suspended k0 l0 c0 p0 fs0 cl =>
    obtain ⟨kk, fs1, rfl, rfl, hgo⟩ := hgo
    obtain ⟨e, s1, hr, he⟩ := hgo (Ga.wake c0 p) p0 rfl (hG.wake c0 p)
    have hz := GenW.runs_gsz hr
    rw [GenW.setGen_size] at hz
    obtain ⟨hq, hk⟩ := hPh e s1 he hz
    exact ⟨_, _, by unfold Wakes; rw [hg]; exact ⟨e, s1, hr, hq, rfl, rfl⟩, hk Ga p hG⟩
  | running => exact hgo.elim
  | finished => exact hgo.elim
theorem md_callSlot {T : String} {name : Str} {id : String} {b : Builtin} {self : Value} {rest : List Value} {Q : Value → Shared → Prop} (h : Slot T name id) (hT : s.TypeIs self T) (hb : entryFor table id = some b)
    (hc : wpAny (Md P w) A.in1 (b ⟨self :: rest, []⟩) (fun fin s' => ∃ v, fin = .done (.ret v) ∧ Q v s') E s) (ha : argsOk id ⟨self :: rest, []⟩) : wpAny (Md P w) A (call (.builtin id) (self :: rest)) Q E s := by
  refine wpAny_call (md_call_builtin h.plain hb (h.check _ _ _ _ _ _ _ _ hT ha (wpAny_mono hc (fun fin s' h' => ?_) fun _ _ h' => h')))
  obtain ⟨v, rfl, hv⟩ := h'
  exact hv
/-- the next item of a generator, or its end -/
theorem md_next {it : Addr} {o : Obj} {g : Nat} {gs : GenState} {Q : Option Value → Shared → Prop} (hh : A.handled = none) (hl : s.heap.NoLimit) (hroom : A.depth < recursionLimit) (ho : s.heap.get? it = some o) (hg : Gen0 o g) (hgs : s.gens[g]? = some gs)
    (hgo : Going P w Ph A.in1 gs (s.setGen g .running))
    (hPh : ∀ e s1, Ph e s1 → s.gens.size ≤ s1.gens.size → e.quiet = true ∧ match e with
      | .ret r => r = .ok (.ret .none) ∧ ∀ ev h', StopX ev h' → (∀ b o, s1.heap.get? b = some o → h'.get? b = some o) → s1.heap.objs.size ≤ h'.objs.size → E ev { s1.setGen g .finished with heap := h' }
      | .susp v g' l' k' c' p' fs' => Q (some v) (s1.setGen g (End.susp v g' l' k' c' p' fs').genState)) : wpAny (Md P w) A (callSpecial? (.ref it) "__next__") Q E s := by
  refine wpAny_callSpecial?_slot (name := Str.ofString "__next__") (hg.typeIs ho) slot_gen_next (md_callSlot slot_gen_next (hg.typeIs ho) entry_gen_next ?_ (args_gen_next _))
  show wpAny _ A.in1 (Builtin.Generator.genWake (.ref it) (.send .none)) _ _ s
  unfold Builtin.Generator.genWake
  refine wpAny_bind (wpAny_holding (wpAny_genNo ho hg (wpAny_bind (wpAny_genState hgs ?_))))
  have fin : ∀ e s1, Ph e s1 → s.gens.size ≤ s1.gens.size → _ := hPh
  cases gs with
  | running => exact hgo.elim
  | finished => exact hgo.elim
  | _ =>
    refine wpAny_bind (wpAny_roomToWake hl hroom ?_)
    show wpAny _ A.in1 (.resume g (.send .none) [] _) _ _ s
    refine md_resume hgs hgo fun e s1 he hz => ?_
    obtain ⟨hq, hr⟩ := hPh e s1 he hz
    refine ⟨hq, ?_⟩
    cases e with
    | ret r =>
      obtain ⟨rfl, hr⟩ := hr
      show wpAny _ A.in1 (newExc (.type "StopIteration") [] >>= _) _ _ _
      refine wpAny_bind ?_
      simp only [newExc, newTuple]
      refine wpAny_bind (wpAny_newObj_type ?_ (by size_fits))
      refine wpAny_bind (m := firstArgMember _ _) (wpAny_of_eq (a := Value.none) (by first | rfl | (simp only [firstArgMember]; rfl)) ?_)
      refine wpAny_newObj_type ?_ (by size_fits)
      simp only [raiseNew]
      refine wpAny_bind (wpAny_bind (wpAny_handled ?_))
      first | rw [show A.in1.handled = none from hh] | rw [hh]
      first
        | refine wpAny_throw ?_
        | refine wpAny_bind (wpAny_pure (wpAny_throw ?_))
        | refine wpAny_pure (wpAny_throw ?_)
      refine hr _ _ ⟨_, _, _, rfl, Heap.get?_push_size _ rfl, rfl, rfl, ?_⟩ (fun b o hb => Heap.get?_push_of_some _ (Heap.get?_push_of_some _ hb)) (by rw [Heap.size_push, Heap.size_push]; exact Nat.le_trans (Nat.le_succ _) (Nat.le_succ _))
      first
        | rfl
        | (rw [Array.getElem?_append_left (by decide)]; rfl)
        | kernel_rfl
    | susp v g' l' k' c' p' fs' => exact wpAny_pure ⟨v, rfl, hr⟩
end

/-! ### a heap cut at a frame -/
def cut (h : Heap) (L : Addr) : Heap := { h with objs := h.objs.extract 0 L }
theorem cut_get {h : Heap} {L b : Addr} (hb : b < L) : (cut h L).get? b = h.get? b := by
  show (match (h.objs.extract 0 L)[b]? with | some ⟨_, _, .freed, _⟩ => none | x => x) = (match h.objs[b]? with | some ⟨_, _, .freed, _⟩ => none | x => x)
  have hz : (h.objs.extract 0 L).size = min L h.objs.size := by rw [Array.size_extract]; rfl
  have e : (h.objs.extract 0 L)[b]? = h.objs[b]? := by
    by_cases hs : b < h.objs.size
    · have h2 : b < (h.objs.extract 0 L).size := by rw [hz]; exact Nat.lt_min.mpr ⟨hb, hs⟩
      rw [Array.getElem?_eq_getElem hs, Array.getElem?_eq_getElem h2]
      simp
    · have h2 : ¬ b < (h.objs.extract 0 L).size := by rw [hz]; exact fun z => hs (Nat.lt_min.mp z).2
      rw [Array.getElem?_eq_none (Nat.le_of_not_lt hs), Array.getElem?_eq_none (Nat.le_of_not_lt h2)]
  rw [e]
theorem cut_size {h : Heap} {L : Addr} (hL : L ≤ h.objs.size) : (cut h L).objs.size = L := by
  show (h.objs.extract 0 L).size = L
  rw [Array.size_extract]
  exact Nat.min_eq_left hL
theorem of_cut {h : Heap} {L b : Addr} {o : Obj} (hL : L ≤ h.objs.size) (e : (cut h L).get? b = some o) : b < L ∧ h.get? b = some o := by
  have hb : b < L := by
    have := Heap.lt_size e
    rw [cut_size hL] at this; exact this
  rw [cut_get hb] at e
  exact ⟨hb, e⟩
theorem runs_hsz {M : Model} {Ga : PySem.Ctx} {p : Pos} {t : Sem PySem.Fin} {fs : List Frame} {s s' : Shared} {e : End} (h : Runs M Ga p t fs s e s') : s.heap.objs.size ≤ s'.heap.objs.size := by
  induction h <;> (try simp only [Shared.setGen, Heap.size_push, Heap.size_update] at *) <;> omega
end Gk
/-! A generator's frame between two wakes; each wake stands on its own ground. -/
namespace Gk
open PySem PySem.Spec PyProof.Rows L2
open Sem (wp)

theorem obj_kept {P : Program} {w : World} {H : Hp} {h : Heap} {a : Addr} {o : HO} (x : ObjOk P w H h a o) : ∃ ob, h.get? a = some ob := by
  cases o with
  | lst xs => obtain ⟨_, _, _, _, e⟩ := x; exact ⟨_, e⟩
  | tup xs => obtain ⟨_, _, _, o, e, _⟩ := x; exact ⟨_, e⟩
  | dK kvs => obtain ⟨_, _, _, _, o, _, _, e, _⟩ := x; exact ⟨_, e⟩
  | dT kvs => obtain ⟨_, _, _, _, o, _, _, e, _⟩ := x; exact ⟨_, e⟩
  | set S n => obtain ⟨o, _, _, _, e, _⟩ := x; exact ⟨_, e⟩
  | ins C dx fs => obtain ⟨_, _, _, e, _⟩ := x; exact ⟨_, e⟩
  | own y => exact x
  | xd fs => obtain ⟨_, ⟨_, _, _, e, _⟩, _⟩ := x; exact ⟨_, e⟩
  | rng lo hi => obtain ⟨_, _, _, e⟩ := x; exact ⟨_, e⟩
  | frz ob u => exact ⟨_, x.1⟩
  | tbl ps => exact ⟨_, (show h.get? a = some _ from x)⟩
  | met f y => exact ⟨_, (show h.get? a = some _ from x)⟩
  | ext φ => exact x.2.1
/-- every object of a sort, as a list -/
theorem pins_of_sort (h : Heap) (φ : Addr → Obj → Prop) : ∃ l : List (Addr × Obj), ∀ p, p ∈ l ↔ h.get? p.1 = some p.2 ∧ φ p.1 p.2 := by
  classical
  refine ⟨(List.range h.objs.size).filterMap fun b => match h.get? b with | some o => if φ b o then some (b, o) else none | none => none, fun p => ⟨fun hp => ?_, fun ⟨e, f⟩ => ?_⟩⟩
  · obtain ⟨b, _, e⟩ := List.mem_filterMap.mp hp
    cases q : h.get? b with
    | none => rw [q] at e; cases e
    | some o =>
      rw [q] at e
      by_cases f : φ b o
      · simp only [f, if_true] at e
        cases e
        exact ⟨q, f⟩
      · simp only [f, if_false] at e
        cases e
  · refine List.mem_filterMap.mpr ⟨p.1, List.mem_range.mpr (Heap.lt_size e), ?_⟩
    rw [e]
    simp only [f, if_true]

abbrev Ext (H H' : Hp) : Prop := ∀ a o, H a = some o → H' a = some o
theorem Ext.refl (H : Hp) : Ext H H := fun _ _ e => e
theorem Ext.trans {H1 H2 H3 : Hp} (a : Ext H1 H2) (b : Ext H2 H3) : Ext H1 H3 := fun x o e => b x o (a x o e)
theorem Ext.upd {H : Hp} {a : Addr} {o : HO} (h : H a = none) : Ext H (upd H a o) := fun b u e => by rw [upd_ne (ne_of_none e h)]; exact e
abbrev Pl := List (Addr × Obj)
abbrev Gl1 := List (Nat × GenState)
abbrev Item := V → Hp → Prop
abbrev GOk (gp : Gl1) (s : Shared) : Prop := ∀ q ∈ gp, s.gens[q.1]? = some q.2
abbrev Sus (gp : Gl1) : Prop := ∀ q ∈ gp, ∃ k l c p fs cl, q.2 = .suspended k l c p fs cl

/-! ### what a consumer sees -/
structure Host (P : Program) (w : World) (K : PySem.W.Frag) (mg : Str → Option Value) (base : Heap) (k : Nat) (lo : Addr) (X : Cx) : Prop where
  prog : X.prog = P
  w : X.w = w
  K : X.K = K
  mg : X.mg = mg
  base : X.base = base
  calm : X.calm = true
  room : Room k X.A
  frs : ∀ b ∈ frs X.stack, b < lo
  wide : ∀ b, lo ≤ b → b ∈ X.ex ∨ X.s_0.heap.objs.size ≤ b
  cells : ∀ x c, X.env.cells.lookup x = some c → c < lo
structure Pre (X : Cx) (lo : Addr) (T : Hp → Prop) (it : Addr) (g : Nat) (fp : Pl) (gp : Gl1) (pins : Pl) (σ : L2.St) (H : Hp) (s : Shared) : Prop where
  inv : In1 X (fp ++ pins) σ H s
  fpok : ∀ p ∈ fp, FpOk X pins H p.1
  gens : GOk gp s
  obj : ∃ o, s.heap.get? it = some o ∧ Gen0 o g
  tt : T H
structure Post (X : Cx) (fp : Pl) (pins : Pl) (σ : L2.St) (H : Hp) (s : Shared) (fp' : Pl) (H' : Hp) (s' : Shared) : Prop where
  inv : In1 X (fp' ++ pins) σ H' s'
  ext : Ext H H'
  fpok : ∀ p ∈ fp', FpOk X pins H' p.1
  sz : s.heap.objs.size ≤ s'.heap.objs.size
/-- what a generator still hands out -/
def Gd (P : Program) (w : World) (K : PySem.W.Frag) (mg : Str → Option Value) (base : Heap) (k : Nat) (T : Hp → Prop) (it : Addr) (g : Nat) (lo : Addr) : List Item → Pl → Gl1 → Prop
  | [], fp, gp => (∀ p ∈ fp, lo ≤ p.1) ∧ (∀ q ∈ gp, g ≤ q.1) ∧ ∀ (X : Cx), Host P w K mg base k lo X → ∀ (pins : Pl) (σ : L2.St) (H : Hp) (s : Shared) (Q : Option Value → Shared → Prop) (E : Value → Shared → Prop), Pre X lo T it g fp gp pins σ H s →
      (∀ e fp' H' s', StopX e s'.heap → Post X fp pins σ H s fp' H' s' → E e s') → wpAny (Md P w) X.A (callSpecial? (.ref it) "__next__") Q E s
  | x :: xs, fp, gp => (∀ p ∈ fp, lo ≤ p.1) ∧ (∀ q ∈ gp, g ≤ q.1) ∧ ∀ (X : Cx), Host P w K mg base k lo X → ∀ (pins : Pl) (σ : L2.St) (H : Hp) (s : Shared) (Q : Option Value → Shared → Prop) (E : Value → Shared → Prop), Pre X lo T it g fp gp pins σ H s →
      (∀ u v fp' gp' H' s', RelV v u → x v H' → Post X fp pins σ H s fp' H' s' → GOk gp' s' → Sus gp' → Gd P w K mg base k T it g lo xs fp' gp' → Q (some u) s') → wpAny (Md P w) X.A (callSpecial? (.ref it) "__next__") Q E s

/-! ### the frame -/
structure GX where
  P : Program
  w : World
  K : PySem.W.Frag
  mg : Str → Option Value
  base : Heap
  k : Nat
  N : List Str
  qual : Str
  scope : Scope
  fa : Addr
  cd : Value
  L : Addr
  g : Nat
  T : Hp → Prop
abbrev GX.env (G : GX) : Env := envOfC G.qual G.scope G.L G.fa G.cd
structure GX.Ok (G : GX) : Prop where
  mod : Mod G.K G.mg G.base
  kind : G.scope.kind = .function
  cells : cellsFrom (G.L + 1) G.scope.names [] = []
  nocell : ∀ x, G.scope.names.lookup x ≠ some .cell ∧ G.scope.names.lookup x ≠ some .free
  bL : G.base.objs.size ≤ G.L
  tm : ∀ H H', Ext H H' → G.T H → G.T H'
structure Wk where
  A : Around
  outer : List Env
  s0 : Shared
  H0 : Hp
  pins : Pl
  tl : Pl
abbrev GX.cx (G : GX) (W : Wk) : Cx where
  prog := G.P
  w := G.w
  K := G.K
  mg := G.mg
  base := G.base
  A := W.A.deeper G.env
  N := G.N
  s_0 := { W.s0 with heap := cut W.s0.heap G.L }
  H_0 := W.H0
  env := G.env
  outer := W.outer
  stack := G.env :: W.outer
  ex := []
  calm := true
  fn := fun _ => true
  pn := W.pins
  xe := no
structure Wk.Ok (G : GX) (W : Wk) : Prop where
  room : Room G.k W.A
  frames : W.A.frames = some W.outer
  frs : ∀ b ∈ frs W.outer, b < G.L
  lt : G.L < W.s0.heap.objs.size
/-- running -/
structure Rn (G : GX) (W : Wk) (own : Pl) (σ : L2.St) (H : Hp) (s : Shared) : Prop where
  inv : In1 (G.cx W) (own ++ W.tl) σ H s
  apart : ∀ p ∈ own, G.L < p.1 ∧ ∀ q ∈ W.pins ++ W.tl, q.1 ≠ p.1
  ext : Ext W.H0 H
  tt : G.T H
  sz : W.s0.heap.objs.size ≤ s.heap.objs.size
  gz : G.g < s.gens.size
/-- how a stretch ends -/
def Ph (G : GX) : List Item → Wk → Fi
  | [], W => fun e s => e = .ret (.ok (.ret .none)) ∧ ∃ own σ H, Rn G W own σ H s
  | x :: xs, W => fun e s => ∃ (v : Value) (kk : Resume → Sem PySem.Fin) (lv : List Value) (c : Code) (p : Pos) (fs0 : List Frame) (v' : V) (own : Pl) (gp : Gl1) (σ : L2.St) (H : Hp),
      e = .susp v false lv (fun r => uy c (kk r)) c p (fs0.map uyF) ∧ fs0.any Frame.guarded = false ∧ RelV v' v ∧ x v' H ∧ Rn G W own σ H s ∧ GOk gp s ∧ (∀ q ∈ gp, G.g < q.1) ∧ Sus gp ∧ (∀ a, lv = [.ref a] → TP own a) ∧
      ∀ W' : Wk, W'.Ok G → ∀ s' H', Rn G W' own σ H' s' → GOk gp s' → Sg G.P G.w (Ph G xs W') W'.A c (kk (.send .none)) fs0 s'
/-- the names' map of the frame's object -/
def LocOk (G : GX) (σ : L2.St) (oL : Obj) : Prop :=
  ∃ (m : Str → Option Value) (es : _) (ep : _), oL.data = .dict es ep ∧ StrKeys es ∧ (∀ name, nsFind es name = m name) ∧ σ.length = G.N.length ∧
    ∀ (i : Nat) (x : Str) (v : V), G.N[i]? = some x → σ[i]? = some (some v) → Vis G.scope x → ∃ u, RelV v u ∧ G.scope.names.lookup x = some .local ∧ m x = some u
theorem Rn.loc {G : GX} (ok : G.Ok) {W : Wk} {own : Pl} {σ : L2.St} {H : Hp} {s : Shared} (r : Rn G W own σ H s) : ∃ oL, s.heap.get? G.L = some oL ∧ LocOk G σ oL := by
  obtain ⟨m, ⟨o, es, ep, ho, hd, hk, hf⟩, hl⟩ := r.inv.inv.loc
  refine ⟨o, ho, m, es, ep, hd, hk, hf, r.inv.inv.len, fun i x v e1 e2 e3 => ?_⟩
  obtain ⟨u, rv, l⟩ := hl i x v e1 e2 e3
  refine ⟨u, rv, ?_⟩
  rcases l with ⟨k, e⟩ | ⟨k, _⟩
  · exact ⟨k, e⟩
  · rcases k with k | k
    · exact absurd k (ok.nocell x).1
    · exact absurd k (ok.nocell x).2
theorem funFrames_cut {h base : Heap} {L : Addr} : ∀ {l : List Env}, (∀ b ∈ frs l, b < L) → h.FunFrames base l → (cut h L).FunFrames base l
  | [], _, _ => trivial
  | env :: r, hb, hl => by
    obtain ⟨hk, ⟨b, o, hf, hn, ho, hd⟩, hr⟩ := hl
    have e : frs (env :: r) = b :: frs r := by unfold frs; rw [List.filterMap_cons, hf]
    rw [e] at hb
    exact ⟨hk, ⟨b, o, hf, hn, (cut_get (hb b List.mem_cons_self)).trans ho, hd⟩, funFrames_cut (fun c hc => hb c (List.mem_cons_of_mem _ hc)) hr⟩

/-- the entry goes on so at every wake -/
def Res (G : GX) (xs : List Item) (gs : GenState) (own : Pl) (gp : Gl1) (σ : L2.St) : Prop :=
  ∀ W : Wk, W.Ok G → ∀ s H, Rn G W own σ H s → GOk gp s → Going G.P G.w (Ph G xs W) W.A gs s

theorem gOk_set {gp : Gl1} {s : Shared} {g : Nat} {x : GenState} (h : GOk gp s) (hg : ∀ q ∈ gp, q.1 ≠ g) : GOk gp (s.setGen g x) := fun q hq => by
  show (s.gens.setIfInBounds g x)[q.1]? = _
  rw [Array.getElem?_setIfInBounds_ne (Ne.symm (hg q hq))]
  exact h q hq
theorem told_set {T : Addr → Prop} {s : Shared} {g : Nat} {x : GenState} (h : Told T s) (hx : ∀ k a c p fs cl, x = .suspended k [.ref a] c p fs cl → T a) : Told T (s.setGen g x) := fun i k a c p fs cl e => by
  have e' : (s.gens.setIfInBounds g x)[i]? = some (.suspended k [.ref a] c p fs cl) := e
  by_cases hi : g = i
  · subst hi
    by_cases hb : g < s.gens.size
    · rw [Array.getElem?_setIfInBounds_self_of_lt hb] at e'
      exact hx _ _ _ _ _ _ (Option.some.inj e')
    · rw [Array.getElem?_eq_none (by simpa using hb)] at e'
      cases e'
  · rw [Array.getElem?_setIfInBounds_ne hi] at e'
    exact h i k a c p fs cl e'
theorem In1.set {X : Cx} {pins : Pl} {σ : L2.St} {H : Hp} {s : Shared} {g : Nat} {x : GenState} (I : In1 X pins σ H s) (hb : x.bare = true) (hx : ∀ k a c p fs cl, x = .suspended k [.ref a] c p fs cl → TP pins a) : In1 X pins σ H (s.setGen g x) :=
  ⟨Inv.other I.inv rfl rfl (allBare_setGen I.inv.bare hb), told_set I.told hx⟩

abbrev wkOf (X : Cx) (s : Shared) (H : Hp) (l pins : Pl) : Wk := ⟨X.A.in1, X.stack, s, H, l, pins⟩
/-- a wake's ground -/
theorem rn_of_pre {G : GX} (ok : G.Ok) {X : Cx} {σL : L2.St} {oL : Obj} {own : Pl} {gp : Gl1} {pins : Pl} {σ : L2.St} {H : Hp} {s : Shared} {it : Addr} (hL : LocOk G σL oL) (hown : ∀ p ∈ own, G.L < p.1) (ho : Host G.P G.w G.K G.mg G.base (G.k + 1) G.L X)
    (pre : Pre X G.L G.T it G.g ((G.L, oL) :: own) gp pins σ H s) (hgz : G.g < s.gens.size) :
    ∃ l : Pl, (∀ p, p ∈ l ↔ s.heap.get? p.1 = some p.2 ∧ H p.1 = none ∧ p.1 ∉ G.L :: own.map (·.1) ∧ p.1 ∉ frs X.stack ∧ ∀ v, p.2.data ≠ .cell v) ∧ (wkOf X s H l pins).Ok G ∧ Rn G (wkOf X s H l pins) own σL H (s.setGen G.g .running) := by
  obtain ⟨l, hl⟩ := pins_of_sort s.heap fun b o => H b = none ∧ b ∉ G.L :: own.map (·.1) ∧ b ∉ frs X.stack ∧ ∀ v, o.data ≠ .cell v
  have I := pre.inv.inv
  have pL := I.pin (G.L, oL) (List.mem_append_right _ (List.mem_append_left _ List.mem_cons_self))
  have hLs : G.L < s.heap.objs.size := Heap.lt_size pL.1
  have szc : (cut s.heap G.L).objs.size = G.L := cut_size (Nat.le_of_lt hLs)
  have kin := I.env0
  have tlok : ∀ p ∈ pins, p.1 ∉ G.L :: own.map (·.1) := fun p hp hm => by
    have : ∃ q ∈ (G.L, oL) :: own, q.1 = p.1 := by
      rcases List.mem_cons.mp hm with e | hm
      · exact ⟨_, List.mem_cons_self, e.symm⟩
      · obtain ⟨q, hq, e⟩ := List.mem_map.mp hm
        exact ⟨q, List.mem_cons_of_mem _ hq, e⟩
    obtain ⟨q, hq, e⟩ := this
    exact (pre.fpok q hq).2.2.2.2.2 p (List.mem_append_right _ hp) e.symm
  have nst : ∀ p ∈ ((G.L, oL) :: own) ++ pins, p.1 ∉ frs X.stack := fun p hp hm => by
    have q := I.pin p (List.mem_append_right _ hp)
    rcases List.mem_cons.mp (I.stkSub p.1 hm) with z | z
    · exact q.2.2.1 z
    · exact q.2.2.2.1 z
  refine ⟨l, hl, ⟨ho.room.in1, I.ok.frames, ho.frs, hLs⟩, ⟨⟨?_, ?_⟩, fun p hp => ⟨hown p hp, fun q hq e => ?_⟩, .refl _, pre.tt, Nat.le_refl _, by rw [GenW.setGen_size]; exact hgz⟩⟩
  · -- the ground
    have env0 := kin
    rw [ho.prog, ho.w, ho.K, ho.mg, ho.base] at env0
    refine ⟨⟨ok.mod, ok.kind, rfl, rfl, ?_, fun x y c e => ?_, fun x h => ?_, fun x c _ e => ?_, fun _ => ho.room.in1.hd, Around.frames_deeper (show X.A.in1.frames = some X.stack from I.ok.frames), .inr ⟨rfl, rfl⟩, fun b z => absurd (show b ∈ ([] : List Addr) from z) (by simp), fun b o e => ?_, ?_, fun b o _ z => absurd (show b ∈ ([] : List Addr) from z) (by simp), fun b z => absurd (show b ∈ ([] : List Addr) from z) (by simp), ?_, ?_⟩,
      rfl, allBare_setGen I.bare rfl, ⟨fun b o e n _ _ => (of_cut (Nat.le_of_lt hLs) e).2, fun b o e n _ _ => ⟨o.slots, (of_cut (Nat.le_of_lt hLs) e).2⟩, fun b o e n _ => n, fun b o e _ => ⟨o, (of_cut (Nat.le_of_lt hLs) e).2⟩, fun b xs e => e, fun b o u e => e, fun b ps e => ⟨#[], by rw [show H b = some (.tbl ps) from e]; simp⟩⟩, ?_, fun x c e => ?_, pL.2.1, fun x c e => ?_, fun p hp => ?_, ?_, ?_⟩
    · show (cut s.heap G.L).objs.size ≤ G.L
      rw [szc]; exact Nat.le_refl _
    · have e' : (cellsFrom (G.L + 1) G.scope.names []).lookup x = some c := e
      rw [ok.cells] at e'; cases e'
    · have h' : G.scope.names.lookup x = some .cell ∨ G.scope.names.lookup x = some .free := h
      rcases h' with h' | h'
      · exact absurd h' (ok.nocell x).1
      · exact absurd h' (ok.nocell x).2
    · have e' : (cellsFrom (G.L + 1) G.scope.names []).lookup x = some c := e
      rw [ok.cells] at e'; cases e'
    · have e' : G.base.get? b = some o := e
      have hb : b < G.L := Nat.lt_of_lt_of_le (Heap.lt_size e') ok.bL
      exact ⟨(cut_get hb).trans (env0.bs b o e').1, (env0.bs b o e').2⟩
    · show G.base.objs.size ≤ (cut s.heap G.L).objs.size
      rw [szc]; exact ok.bL
    · exact funFrames_cut ho.frs env0.funs
    · exact env0.frf
    · obtain ⟨m, es, ep, hd, hk, hf, _, hv⟩ := hL
      refine ⟨m, ⟨oL, es, ep, pL.1, hd, hk, hf⟩, fun i x v e1 e2 e3 => ?_⟩
      obtain ⟨u, rv, k, e⟩ := hv i x v e1 e2 e3
      exact ⟨u, rv, .inl ⟨k, e⟩⟩
    · have e' : (cellsFrom (G.L + 1) G.scope.names []).lookup x = some c := e
      rw [ok.cells] at e'; cases e'
    · have e' : (cellsFrom (G.L + 1) G.scope.names []).lookup x = some c := e
      rw [ok.cells] at e'; cases e'
    · rcases List.mem_append.mp hp with hp | hp
      · obtain ⟨e, n, a, b, c⟩ := (hl p).mp hp
        exact ⟨e, n, fun z => a (by rw [z]; exact List.mem_cons_self), b, c⟩
      · have hp' : p ∈ ((G.L, oL) :: own) ++ pins := by
          rcases List.mem_append.mp hp with hp | hp
          · exact List.mem_append_left _ (List.mem_cons_of_mem _ hp)
          · exact List.mem_append_right _ hp
        have q := I.pin p (List.mem_append_right _ hp')
        refine ⟨q.1, q.2.1, ?_, nst p hp', q.2.2.2.2⟩
        rcases List.mem_append.mp hp with hp | hp
        · exact Nat.ne_of_gt (hown p hp)
        · exact fun z => tlok p hp (by rw [show p.1 = G.L from z]; exact List.mem_cons_self)
    · have hk := I.hok
      rw [ho.prog, ho.w] at hk
      exact hk
    · obtain ⟨m, es, ep, hd, hk, hf, hlen, hv⟩ := hL
      exact hlen
  · refine told_set (fun i k a c p fs cl e => ?_) (fun k a c p fs cl e => by cases e)
    obtain ⟨o, hm, hg⟩ := pre.inv.told i k a c p fs cl e
    rcases List.mem_append.mp hm with hm | hm
    · rcases List.mem_cons.mp hm with e | hm
      · obtain ⟨m, es, ep, hd, _⟩ := hL
        have e2 : o = oL := by cases e; rfl
        rw [e2] at hg
        unfold Gk.isG Obj.genNumber? at hg
        rw [hd] at hg
        revert hg
        cases oL.cls <;> intro hg <;> first | (cases hg; done) | skip
        split at hg <;> simp_all
      · exact ⟨o, List.mem_append_left _ hm, hg⟩
    · exact ⟨o, List.mem_append_right _ hm, hg⟩
  · rcases List.mem_append.mp hq with hq | hq
    · exact ((hl q).mp hq).2.2.1 (List.mem_cons_of_mem _ (List.mem_map.mpr ⟨p, hp, e.symm⟩))
    · exact tlok q hq (List.mem_cons_of_mem _ (List.mem_map.mpr ⟨p, hp, e.symm⟩))
end Gk
/-! From a body's stretches to what a consumer sees. -/
namespace Gk
open PySem PySem.Spec PyProof.Rows L2
open Sem (wp)

section
variable {G : GX} {X : Cx} {σL : L2.St} {oL : Obj} {own own' : Pl} {gp : Gl1} {pins l : Pl} {σ σ' : L2.St} {H H' : Hp} {s s1 s2 : Shared} {it : Addr}
theorem mem_own {own : Pl} {L b : Addr} {oL : Obj} (h : b ∈ L :: own.map (·.1)) : ∃ q ∈ (L, oL) :: own, q.1 = b := by
  rcases List.mem_cons.mp h with e | hm
  · exact ⟨_, List.mem_cons_self, e.symm⟩
  · obtain ⟨q, hq, e⟩ := List.mem_map.mp hm
    exact ⟨q, List.mem_cons_of_mem _ hq, e⟩
theorem post_of (ok : G.Ok) (ho : Host G.P G.w G.K G.mg G.base (G.k + 1) G.L X) (pre : Pre X G.L G.T it G.g ((G.L, oL) :: own) gp pins σ H s)
    (hl : ∀ p, p ∈ l ↔ s.heap.get? p.1 = some p.2 ∧ H p.1 = none ∧ p.1 ∉ G.L :: own.map (·.1) ∧ p.1 ∉ frs X.stack ∧ ∀ v, p.2.data ≠ .cell v)
    (r : Rn G (wkOf X s H l pins) own' σ' H' s1) (os2 : s2.os = s1.os) (kp : ∀ b o, s1.heap.get? b = some o → s2.heap.get? b = some o) (hsz : s1.heap.objs.size ≤ s2.heap.objs.size) (hb : AllBare s2.gens) (ht : Told (TP (own' ++ pins)) s2) :
    ∃ oL', LocOk G σ' oL' ∧ Post X ((G.L, oL) :: own) pins σ H s ((G.L, oL') :: own') H' s2 := by
  obtain ⟨oL', hL', loc'⟩ := r.loc ok
  refine ⟨oL', loc', ?_⟩
  have I := pre.inv.inv
  have J := r.inv.inv
  have I0 : Inv X pins σ H s := I.pins_of fun p hp => I.pin p (List.mem_append_right _ (List.mem_append_right _ hp))
  have pL := I.pin (G.L, oL) (List.mem_append_right _ (List.mem_append_left _ List.mem_cons_self))
  have hLs : G.L ≤ s.heap.objs.size := Nat.le_of_lt (Heap.lt_size pL.1)
  have jok : HOk X.prog X.w H' s2.heap := by
    have := J.hok
    rw [ho.prog, ho.w]
    exact this.kept kp
  -- what is pinned from abroad
  have pinned : ∀ b o, s.heap.get? b = some o → H b = none → b ∉ G.L :: own.map (·.1) → b ∉ frs X.stack → (∀ v, o.data ≠ .cell v) → s1.heap.get? b = some o ∧ H' b = none := fun b o e n h1 h2 h3 => by
    have q := J.pin (b, o) (List.mem_append_left _ ((hl (b, o)).mpr ⟨e, n, h1, h2, h3⟩))
    exact ⟨q.1, q.2.1⟩
  let ch : List Addr := (G.L :: own.map (·.1)) ++ ((List.range s.heap.objs.size).filter fun b => decide (G.L ≤ b) && (match s.heap.get? b with | some o => (match o.data with | .cell _ => true | _ => false) | none => false))
  have hch : ∀ b, b ∈ ch ↔ (b ∈ G.L :: own.map (·.1)) ∨ (G.L ≤ b ∧ ∃ o v, s.heap.get? b = some o ∧ o.data = .cell v) := fun b => by
    constructor
    · intro h
      rcases List.mem_append.mp h with h | h
      · exact .inl h
      · obtain ⟨h1, h2⟩ := List.mem_filter.mp h
        simp only [Bool.and_eq_true, decide_eq_true_eq] at h2
        obtain ⟨h2, h3⟩ := h2
        refine .inr ⟨h2, ?_⟩
        cases q : s.heap.get? b with
        | none => rw [q] at h3; simp at h3
        | some o =>
          rw [q] at h3
          cases d : o.data with
          | cell v => exact ⟨o, v, rfl, d⟩
          | _ => simp [d] at h3
    · rintro (h | ⟨h1, o, v, e, d⟩)
      · exact List.mem_append_left _ h
      · refine List.mem_append_right _ (List.mem_filter.mpr ⟨List.mem_range.mpr (Heap.lt_size e), ?_⟩)
        simp [h1, e, d]
  have nonch : ∀ b o, b ∉ ch → s.heap.get? b = some o → b ∉ G.L :: own.map (·.1) ∧ (G.L ≤ b → ∀ v, o.data ≠ .cell v) := fun b o hb e =>
    ⟨fun z => hb ((hch b).mpr (.inl z)), fun h v d => hb ((hch b).mpr (.inr ⟨h, o, v, e, d⟩))⟩
  have below : ∀ b o, s.heap.get? b = some o → b < G.L → (cut s.heap G.L).get? b = some o := fun b o e hb => (cut_get hb).trans e
  have noex : ∀ b : Addr, b ∉ (G.cx (wkOf X s H l pins)).ex := fun b z => absurd (show b ∈ ([] : List Addr) from z) (by simp)
  have un : Un (frs X.stack) ch H H' s.heap s2.heap := by
    refine ⟨fun b o e n hf hc => ?_, fun b o e n hf hc => ?_, fun b o e n hc => ?_, fun b o e hc => ?_, fun b xs e => r.ext b _ e, fun b o u e => r.ext b _ e, fun b ps e => ⟨#[], by rw [r.ext b _ e]; simp⟩⟩
    · obtain ⟨h1, h2⟩ := nonch b o hc e
      rcases Nat.lt_or_ge b G.L with hb | hb
      · exact kp b o (J.base.keep b o (below b o e hb) n hf (noex b))
      · exact kp b o (pinned b o e n h1 hf (h2 hb)).1
    · have hb := ho.frs b hf
      obtain ⟨sl, e1⟩ := J.base.slot b o (below b o e hb) n hf (noex b)
      exact ⟨sl, kp b _ e1⟩
    · obtain ⟨h1, h2⟩ := nonch b o hc e
      rcases Nat.lt_or_ge b G.L with hb | hb
      · exact J.base.free b o (below b o e hb) n (noex b)
      · exact (pinned b o e n h1 (fun z => absurd (ho.frs b z) (Nat.not_lt.mpr hb)) (h2 hb)).2
    · obtain ⟨h1, h2⟩ := nonch b o hc e
      rcases Nat.lt_or_ge b G.L with hb | hb
      · obtain ⟨o', e1⟩ := J.base.there b o (below b o e hb) (noex b)
        exact ⟨o', kp b o' e1⟩
      · cases q : H b with
        | none => exact ⟨o, kp b o (pinned b o e q h1 (fun z => absurd (ho.frs b z) (Nat.not_lt.mpr hb)) (h2 hb)).1⟩
        | some u => exact obj_kept (jok b u (r.ext b u q))
  have hos : s2.os = s.os := os2.trans J.os
  have K : Inv X pins σ H' s2 := by
    refine I0.call' (ch := ch) hos un jok hb fun b hb => ?_
    rcases (hch b).mp hb with h | ⟨h, o, v, e, d⟩
    · obtain ⟨q, hq, rfl⟩ := mem_own (oL := oL) h
      have f := pre.fpok q hq
      exact ⟨f.2.2.2.1, f.2.1, f.2.2.2.2.1, f.2.2.2.2.2⟩
    · refine ⟨ho.wide b h, fun z => ?_, fun x c ec z => ?_, fun p hp z => ?_⟩
      · obtain ⟨m, ⟨o2, es, ep, e2, d2, _⟩, _⟩ := I0.loc
        rw [← z, e] at e2
        cases e2
        rw [d] at d2; cases d2
      · exact absurd (ho.cells x c ec) (by rw [z]; exact Nat.not_lt.mpr h)
      · obtain ⟨e2, _, _, _, d2⟩ := I0.pin p hp
        rw [z, e] at e2
        cases e2
        exact d2 v d
  have szs : s.heap.objs.size ≤ s1.heap.objs.size := r.sz
  have fpok : ∀ p ∈ (G.L, oL') :: own', FpOk X pins H' p.1 := fun p hp => by
    have hn : H' p.1 = none := by
      rcases List.mem_cons.mp hp with rfl | hp
      · exact J.free
      · exact (J.pin p (List.mem_append_right _ (List.mem_append_left _ hp))).2.1
    have old : ∀ q ∈ (G.L, oL) :: own, q.1 = p.1 → FpOk X pins H' p.1 := fun q hq e => by
      have f := pre.fpok q hq
      rw [e] at f
      exact ⟨hn, f.2⟩
    rcases List.mem_cons.mp hp with e | hp
    · exact old _ List.mem_cons_self (by rw [e])
    · by_cases hmem : p.1 ∈ G.L :: own.map (·.1)
      · obtain ⟨q, hq, e⟩ := mem_own (oL := oL) hmem
        exact old q hq e
      · have ap := r.apart p hp
        have q := J.pin p (List.mem_append_right _ (List.mem_append_left _ hp))
        have nfr : p.1 ∉ frs X.stack := q.2.2.2.1
        -- what is pinned from abroad stands apart
        have far : ∀ b o, s.heap.get? b = some o → H b = none → (∀ v, o.data ≠ .cell v) → b ≠ p.1 := fun b o e n d z => by
          subst z
          exact ap.2 (p.1, o) (List.mem_append_left _ ((hl (p.1, o)).mpr ⟨e, n, hmem, nfr, d⟩)) rfl
        refine ⟨hn, fun z => ?_, fun z => ?_, ho.wide p.1 (Nat.le_of_lt ap.1), fun x c ec z => ?_, fun z hz e => ?_⟩
        · obtain ⟨m, ⟨o2, es, ep, e2, d2, _⟩, _⟩ := I0.loc
          exact far X.env.locals o2 e2 I0.free (fun v d => by rw [d2] at d; cases d) z.symm
        · refine nfr ?_
          rcases I0.ok.stk with e | ⟨e, hf⟩
          · rw [e]; exact z
          · rw [e]
            unfold frs
            rw [List.filterMap_cons, hf]
            exact List.mem_cons_of_mem _ z
        · exact absurd (ho.cells x c ec) (by rw [z]; exact Nat.not_lt.mpr (Nat.le_of_lt ap.1))
        · obtain ⟨e2, n2, _, _, d2⟩ := I0.pin z hz
          exact far z.1 z.2 e2 n2 d2 e
  refine ⟨⟨K.pins_of fun p hp => ?_, fun i k a c p fs cl e => ?_⟩, r.ext, fpok, Nat.le_trans szs hsz⟩
  · rcases List.mem_append.mp hp with hp | hp
    · have f := fpok p hp
      rcases List.mem_cons.mp hp with e | hp
      · subst e
        obtain ⟨m, es, ep, d, _⟩ := loc'
        exact ⟨kp _ _ hL', f.1, f.2.1, f.2.2.1, fun v z => by rw [show oL'.data = _ from z] at d; cases d⟩
      · have q := J.pin p (List.mem_append_right _ (List.mem_append_left _ hp))
        exact ⟨kp _ _ q.1, f.1, f.2.1, f.2.2.1, q.2.2.2.2⟩
    · exact K.pin p (List.mem_append_right _ hp)
  · obtain ⟨o, hm, hg⟩ := ht i k a c p fs cl e
    refine ⟨o, ?_, hg⟩
    rcases List.mem_append.mp hm with hm | hm
    · exact List.mem_append_left _ (List.mem_cons_of_mem _ hm)
    · exact List.mem_append_right _ hm
end

/-- THE RULE: a frame whose entry goes on so hands out xs -/
theorem gd_of {G : GX} (ok : G.Ok) {it : Addr} : ∀ (xs : List Item) {σL : L2.St} {oL : Obj} {own : Pl} {gs : GenState} {gp : Gl1}, LocOk G σL oL → (∀ p ∈ own, G.L < p.1) → (∀ q ∈ gp, G.g < q.1) → gs ≠ .running → gs ≠ .finished →
    Res G xs gs own gp σL → Gd G.P G.w G.K G.mg G.base (G.k + 1) G.T it G.g G.L xs ((G.L, oL) :: own) ((G.g, gs) :: gp) := by
  intro xs
  induction xs with
  | nil =>
    intro σL oL own gs gp hL hown hgp h1 h2 res
    refine ⟨fun p hp => ?_, fun q hq => ?_, fun X ho pins σ H s Q E pre hE => ?_⟩
    · rcases List.mem_cons.mp hp with e | hp
      · rw [e]; exact Nat.le_refl _
      · exact Nat.le_of_lt (hown p hp)
    · rcases List.mem_cons.mp hq with e | hq
      · rw [e]; exact Nat.le_refl _
      · exact Nat.le_of_lt (hgp q hq)
    · obtain ⟨l, hl, wok, r⟩ := rn_of_pre ok hL hown ho pre (Array.getElem?_eq_some_iff.mp (pre.gens (G.g, gs) List.mem_cons_self)).1
      obtain ⟨o, hit, hg0⟩ := pre.obj
      have hgs : s.gens[G.g]? = some gs := pre.gens (G.g, gs) List.mem_cons_self
      refine md_next (Ph := Ph G [] (wkOf X s H l pins)) ho.room.hd pre.inv.inv.nolimit ho.room.depth hit hg0 hgs (res _ wok _ _ r (gOk_set (fun q hq => pre.gens q (List.mem_cons_of_mem _ hq)) fun q hq => Nat.ne_of_gt (hgp q hq))) fun e s1 he hz => ?_
      obtain ⟨rfl, own', σ', H', r1⟩ := he
      refine ⟨rfl, rfl, fun ev h' hS hk hsz => ?_⟩
      obtain ⟨oL', loc', post⟩ := post_of (s2 := { s1.setGen G.g .finished with heap := h' }) ok ho pre hl r1 rfl hk hsz (allBare_setGen r1.inv.inv.bare rfl) (told_set r1.inv.told fun _ _ _ _ _ _ z => by cases z)
      exact hE ev _ H' _ hS post
  | cons x xs ih =>
    intro σL oL own gs gp hL hown hgp h1 h2 res
    refine ⟨fun p hp => ?_, fun q hq => ?_, fun X ho pins σ H s Q E pre hQ => ?_⟩
    · rcases List.mem_cons.mp hp with e | hp
      · rw [e]; exact Nat.le_refl _
      · exact Nat.le_of_lt (hown p hp)
    · rcases List.mem_cons.mp hq with e | hq
      · rw [e]; exact Nat.le_refl _
      · exact Nat.le_of_lt (hgp q hq)
    · obtain ⟨l, hl, wok, r⟩ := rn_of_pre ok hL hown ho pre (Array.getElem?_eq_some_iff.mp (pre.gens (G.g, gs) List.mem_cons_self)).1
      obtain ⟨o, hit, hg0⟩ := pre.obj
      have hgs : s.gens[G.g]? = some gs := pre.gens (G.g, gs) List.mem_cons_self
      refine md_next (Ph := Ph G (x :: xs) (wkOf X s H l pins)) ho.room.hd pre.inv.inv.nolimit ho.room.depth hit hg0 hgs (res _ wok _ _ r (gOk_set (fun q hq => pre.gens q (List.mem_cons_of_mem _ hq)) fun q hq => Nat.ne_of_gt (hgp q hq))) fun e s1 he hz => ?_
      obtain ⟨v, kk, lv, c, p, fs0, v', own', gp', σ', H', rfl, hng, rv, hx, r1, g1, hgp', hsus, htl, next⟩ := he
      have hq : (End.susp v false lv (fun r => uy c (kk r)) c p (fs0.map uyF)).quiet = true := by
        show (!(false || (fs0.map uyF).any Frame.guarded)) = true
        rw [uyF_any, hng]; rfl
      refine ⟨hq, ?_⟩
      have hbare := End.bare_of_quiet hq
      have hgl : G.g < s1.gens.size := Nat.lt_of_lt_of_le (Array.getElem?_eq_some_iff.mp hgs).1 hz
      obtain ⟨oL', loc', post⟩ := post_of (s2 := s1.setGen G.g (End.susp v false lv (fun r => uy c (kk r)) c p (fs0.map uyF)).genState) ok ho pre hl r1 rfl (fun _ _ z => z) (Nat.le_refl _) (allBare_setGen r1.inv.inv.bare hbare)
        (told_set r1.inv.told fun k a c p fs cl e => by
          have e2 : lv = [.ref a] := by
            have e' : GenState.suspended _ lv _ _ _ _ = _ := e
            injection e' with _ e3
          obtain ⟨o, hm, hg⟩ := htl a e2
          exact ⟨o, List.mem_append_left _ hm, hg⟩)
      refine hQ v v' _ ((G.g, (End.susp v false lv (fun r => uy c (kk r)) c p (fs0.map uyF)).genState) :: gp') H' _ rv hx post (fun q hq => ?_) (fun q hq => ?_) ?_
      · rcases List.mem_cons.mp hq with e | hq
        · subst e
          show (s1.gens.setIfInBounds G.g _)[G.g]? = _
          rw [Array.getElem?_setIfInBounds_self_of_lt hgl]
        · exact gOk_set g1 (fun q hq => Nat.ne_of_gt (hgp' q hq)) q hq
      · rcases List.mem_cons.mp hq with e | hq
        · subst e; exact ⟨_, _, _, _, _, _, rfl⟩
        · exact hsus q hq
      · refine ih loc' (fun p hp => (r1.apart p hp).1) hgp' (fun z => by cases z) (fun z => by cases z) fun W wo s' H2 r2 g2 => ?_
        exact ⟨kk, fs0, rfl, rfl, next W wo s' H2 r2 g2⟩
end Gk
/-! Plain steps of a running frame; the delegate's mark. -/
namespace Gk
open PySem PySem.Spec PyProof.Rows L2
open Sem (wp)

theorem wp_hsz {α : Type} (M : Model) (Ga : PySem.Ctx) (n : Nat) (t : Sem α) : ∀ (Q : α → Pos → Shared → Prop) (E : Value → Pos → Shared → Prop) (p : Pos) (s : Shared), n ≤ s.heap.objs.size → wp M Ga t Q E p s →
    wp M Ga t (fun a p' s' => n ≤ s'.heap.objs.size ∧ Q a p' s') (fun e p' s' => n ≤ s'.heap.objs.size ∧ E e p' s') p s := by
  induction t with
  | pure a => intro Q E p s z h; exact ⟨z, h⟩
  | raise e => intro Q E p s z h; exact ⟨z, h⟩
  | unsupported _ => intro Q E p s _ h; exact h.elim
  | finish _ => intro Q E p s _ h; exact h.elim
  | register _ _ => intro Q E p s _ h; exact h.elim
  | yield _ _ _ _ => intro Q E p s _ h; exact h.elim
  | fork _ _ => intro Q E p s _ h; exact h.elim
  | await _ _ _ _ _ => intro Q E p s _ h; exact h.elim
  | rule _ k ih => intro Q E p s z h; exact ih () Q E p s z h
  | «at» p' k ih => intro Q E p s z h; exact ih () Q E p' s z h
  | load a _ k ih => intro Q E p s z h; obtain ⟨o, ho, h⟩ := h; exact ⟨o, ho, ih o Q E p s z h⟩
  | update a _ f k ih => intro Q E p s z h; exact ⟨h.1, ih () Q E p _ (by rw [Heap.size_update]; exact z) h.2⟩
  | loadIfAlive a k ih => intro Q E p s z h; exact ih _ Q E p s z h
  | point _ k ih => intro Q E p s z h; exact ih () Q E p s z h
  | alloc o k ih => intro Q E p s z h; exact ih _ Q E p _ (by rw [Heap.size_push]; exact Nat.le_succ_of_le z) h
  | fresh k ih => intro Q E p s z h; exact ih _ Q E p _ z h
  | ask k ih => intro Q E p s z h; exact ih _ Q E p s z h
  | choose src m k ih => intro Q E p s z h; exact ⟨h.1, ih _ Q E p _ z h.2⟩
  | os q _ k ih => intro Q E p s z h; exact ih _ Q E p _ z h
  | call c hd _ _ k ih => intro Q E p s z h; obtain ⟨r, s1, hr, h⟩ := h; exact ⟨r, s1, hr, ih r Q E p s1 (Nat.le_trans z (runs_hsz hr)) h⟩
  | handled own k ih => intro Q E p s z h; exact ih _ Q E p s z h
  | genState g k ih => intro Q E p s z h; obtain ⟨st, hs, h⟩ := h; exact ⟨st, hs, ih _ Q E p s z h⟩
  | newGen c k ih => intro Q E p s z h; exact ih _ Q E p _ z h
  | resume g r _ k ih =>
    intro Q E p s z h
    obtain ⟨res, s1, hw, h⟩ := h
    refine ⟨res, s1, hw, ih res Q E p s1 (Nat.le_trans z ?_) h⟩
    unfold Wakes at hw
    split at hw
    · exact hw.elim
    · split at hw
      · obtain ⟨e1, s2, hr, _, _, rfl⟩ := hw
        have q := runs_hsz hr
        exact q
      · rw [hw.2]; exact Nat.le_refl _
      · rw [hw.2]; exact Nat.le_refl _
    · obtain ⟨e1, s2, hr, _, _, rfl⟩ := hw
      have q := runs_hsz hr
      exact q
    · rw [hw.2]; exact Nat.le_refl _
    · rw [hw.2]; exact Nat.le_refl _
  | stack k ih => intro Q E p s z h; exact ih _ Q E p s z h
  | thread k ih => intro Q E p s z h; exact ih _ Q E p s z h
theorem wpAny_hsz {α : Type} {M : Model} {A : Around} {s : Shared} {t : Sem α} {Q : α → Shared → Prop} {E : Value → Shared → Prop} {n : Nat} (hn : n ≤ s.heap.objs.size) (h : wpAny M A t Q E s) :
    wpAny M A t (fun a s' => n ≤ s'.heap.objs.size ∧ Q a s') (fun e s' => n ≤ s'.heap.objs.size ∧ E e s') s :=
  fun Ga p hG => wp_hsz M Ga n t _ _ p s hn (h Ga p hG)
theorem wpAny_gsz1 {α : Type} {M : Model} {A : Around} {s : Shared} {t : Sem α} {Q : α → Shared → Prop} {E : Value → Shared → Prop} {n : Nat} (hn : n ≤ s.gens.size) (h : wpAny M A t Q E s) :
    wpAny M A t (fun a s' => n ≤ s'.gens.size ∧ Q a s') (fun e s' => n ≤ s'.gens.size ∧ E e s') s :=
  fun Ga p hG => GenW.wp_gsz M Ga n t _ _ p s hn (h Ga p hG)

section
variable {G : GX} {W : Wk} {own : Pl} {σ : L2.St} {H : Hp} {s : Shared}
/-- THE STEP of a running frame: a plain run -/
theorem rn_stepH {α : Type} {t : Sem α} {A : Around} {R : α → L2.St → Hp → Heap → Prop} (ok : G.Ok) (r : Rn G W own σ H s)
    (h : wpAny (model G.P G.w) A t (fun a sh => ∃ σ' H', Inv (G.cx W) (own ++ W.tl) σ' H' sh ∧ Ext H H' ∧ R a σ' H' sh.heap) no (lulled s)) :
    wpAny (Md G.P G.w) A t (fun a s' => ∃ σ' H', Rn G W own σ' H' s' ∧ R a σ' H' s'.heap) no s := by
  refine wpAny_mono (wpAny_hsz r.sz (wpAny_gsz1 (Nat.succ_le_of_lt r.gz) (wpAny_bb r.inv.inv.bare h))) (fun a s' ⟨z1, z2, _, sh, z, σ', H', J, e, q⟩ => ⟨σ', H', ⟨r.inv.of_zb' z J, r.apart, r.ext.trans e, ok.tm _ _ e r.tt, z1, z2⟩, by rw [z.heap]; exact q⟩) fun _ _ ⟨_, _, _, _, _, z⟩ => z
theorem rn_step {α : Type} {t : Sem α} {A : Around} {R : α → L2.St → Hp → Prop} (ok : G.Ok) (r : Rn G W own σ H s)
    (h : wpAny (model G.P G.w) A t (fun a sh => ∃ σ' H', Inv (G.cx W) (own ++ W.tl) σ' H' sh ∧ Ext H H' ∧ R a σ' H') no (lulled s)) :
    wpAny (Md G.P G.w) A t (fun a s' => ∃ σ' H', Rn G W own σ' H' s' ∧ R a σ' H') no s := rn_stepH (R := fun a σ' H' _ => R a σ' H') ok r h
theorem rn_pe {e : Expr} {te : TE} {Q : VK} (ok : G.Ok) (r : Rn G W own σ H s) (he : PE (G.cx W) e te) (ht : te σ H fun v H' => Ext H H' ∧ Q v H') :
    wpAny (Md G.P G.w) (G.cx W).A (eval e G.env) (fun u s' => ∃ v H', Rn G W own σ H' s' ∧ RelV v u ∧ Q v H') no s :=
  wpAny_mono (rn_step (R := fun u σ' H' => σ' = σ ∧ ∃ v, RelV v u ∧ Q v H') ok r (wpAny_mono (he.run _ _ σ H _ (Inv.lulled r.inv.inv) ht) (fun u sh ⟨v, H', J, rv, e, q⟩ => ⟨σ, H', J, e, rfl, v, rv, q⟩) fun _ _ z => z))
    (fun u s' ⟨σ', H', r', e, v, rv, q⟩ => by subst e; exact ⟨v, H', r', rv, q⟩) fun _ _ z => z
theorem rn_pt {e : Expr} {te : TT} {Q : Bool → Hp → Prop} (ok : G.Ok) (r : Rn G W own σ H s) (he : PT (G.cx W) e te) (ht : te σ H fun v H' => Ext H H' ∧ Q v H') :
    wpAny (Md G.P G.w) (G.cx W).A (isTrue e G.env (eval e G.env)) (fun b s' => ∃ H', Rn G W own σ H' s' ∧ Q b H') no s :=
  wpAny_mono (rn_step (R := fun b σ' H' => σ' = σ ∧ Q b H') ok r (wpAny_mono (he.run _ _ σ H _ (Inv.lulled r.inv.inv) ht) (fun b sh ⟨H', J, e, q⟩ => ⟨σ, H', J, e, rfl, q⟩) fun _ _ z => z))
    (fun u s' ⟨σ', H', r', e, q⟩ => by subst e; exact ⟨H', r', q⟩) fun _ _ z => z
theorem rn_ps {st : Stmt} {t : TS} {R : L2.St → Hp → Prop} (ok : G.Ok) (r : Rn G W own σ H s) (hs : PS (G.cx W) st t) (ht : t { nx := fun σ' H' => Ext H H' ∧ R σ' H', rt := fun _ _ => False, bk := fun _ _ => False, ct := fun _ _ => False } σ H) :
    wpAny (Md G.P G.w) (G.cx W).A (exec st G.env) (fun f s' => f = .next ∧ ∃ σ' H', Rn G W own σ' H' s' ∧ R σ' H') no s :=
  wpAny_mono (rn_step (R := fun f σ' H' => f = .next ∧ R σ' H') ok r (wpAny_mono (hs.run _ _ σ H _ (Inv.lulled r.inv.inv) ht) (fun f sh q => by
    cases f with
    | next => obtain ⟨σ', H', J, e, q⟩ := q; exact ⟨σ', H', J, e, rfl, q⟩
    | brk => obtain ⟨σ', H', J, q⟩ := q; exact q.elim
    | cont => obtain ⟨σ', H', J, q⟩ := q; exact q.elim
    | ret u => obtain ⟨v, σ', H', J, _, q⟩ := q; exact q.elim) fun _ _ z => z))
    (fun f s' ⟨σ', H', r', e, q⟩ => ⟨e, σ', H', r', q⟩) fun _ _ z => z
end

/-! ### the mark over a delegate -/
/-- a generator's object with n sleepers over it -/
def Genn (o : Obj) (g : Nat) (n : Int) : Prop := o.cls = .type "generator" ∧ (∃ nm qn, o.data = .fields #[.int g 0, nm, qn]) ∧ o.slots = #[some (.int n 0)]
theorem Gen0.of {o : Obj} {g : Nat} (h : Genn o g 0) : Gen0 o g := ⟨h.1, h.2.1, .inr h.2.2⟩
theorem Genn.isG {o : Obj} {g : Nat} {n : Int} (h : Genn o g n) : Gk.isG o = true := by
  obtain ⟨hc, ⟨nm, qn, hd⟩, _⟩ := h
  unfold Gk.isG Obj.genNumber?
  rw [hc, hd]; rfl
section
variable {M : Model} {A : Around} {E : Value → Shared → Prop} {s : Shared}
theorem wpAny_slept {a : Addr} {o : Obj} {g : Nat} {n : Int} {b : Bool} {Q : Unit → Shared → Prop} (ho : s.heap.get? a = some o) (hc : o.cls = .type "generator") (hd : ∃ nm qn, o.data = .fields #[.int g 0, nm, qn]) (hs : (o.slots = #[] ∧ n = 0) ∨ o.slots = #[some (.int n 0)])
    (h : ∀ h' o', h'.get? a = some o' → Genn o' g (if b then n + 1 else n - 1) → Heap.SameBut a s.heap h' → Q () { s with heap := h' }) : wpAny M A (Builtin.Generator.sleptOver (.ref a) b) Q E s := by
  obtain ⟨nm, qn, hd⟩ := hd
  unfold Builtin.Generator.sleptOver
  refine wpAny_bind (wpAny_load ho ?_)
  rw [hc]
  rw [if_neg (by decide)]
  have key : ∀ (m : Int), m = n → wpAny M A (setSlotAt a 0 (some (rawInt (if b then m + 1 else m - 1)))) Q E s := by
    rintro m rfl
    unfold setSlotAt
    rw [if_neg (by rw [sizeLine_eq]; decide)]
    have e : ((o.slots ++ Array.replicate (0 + 1 - o.slots.size) none).setIfInBounds 0 (some (rawInt (if b then m + 1 else m - 1)))) = #[some (.int (if b then m + 1 else m - 1) 0)] := by
      rcases hs with ⟨hs, _⟩ | hs <;> rw [hs] <;> rfl
    refine wpAny_updatePart ho ?_
    exact h _ _ (Heap.get?_update_self _ ho (by show Obj.isFreed { o with slots := _ } = false; exact Obj.isFreed_of_fields (o := { o with slots := _ }) hd)) ⟨hc, ⟨nm, qn, hd⟩, e⟩ (Heap.SameBut.update ..)
  rcases hs with ⟨hs, rfl⟩ | hs
  · rw [hs]; exact key _ rfl
  · rw [hs]; exact key _ rfl
end
end Gk
/-! The call of a generator def. -/
namespace Gk
open PySem PySem.Spec PyProof.Rows L2
open Sem (wp)

/-- a generator that was just made -/
structure Fresh1 (X : Cx) (k : Nat) (T : Hp → Prop) (items : List Item) (pins : Pl) (σ : L2.St) (H : Hp) (s : Shared) (it : Addr) (g : Nat) (lo : Addr) (o : Obj) (fp : Pl) (gp : Gl1) (s' : Shared) : Prop where
  gd : Gd X.prog X.w X.K X.mg X.base k T it g lo items fp gp
  inv : In1 X (fp ++ (it, o) :: pins) σ H s'
  fpok : ∀ p ∈ fp, FpOk X ((it, o) :: pins) H p.1
  itok : FpOk X pins H it
  gens : GOk gp s'
  obj : Gen0 o g
  los : s.heap.objs.size ≤ lo
  lit : lo ≤ it
  gs : s.gens.size ≤ g
  sz : s.heap.objs.size ≤ s'.heap.objs.size
  gz : s.gens.size ≤ s'.gens.size
  told : Told (TP pins) s'
  tt : T H
  tm : ∀ H1 H2, Ext H1 H2 → T H1 → T H2
def Made (X : Cx) (k : Nat) (T : Hp → Prop) (items : List Item) (pins : Pl) (σ : L2.St) (H : Hp) (s : Shared) (u : Value) (s' : Shared) : Prop :=
  ∃ it g lo o fp gp, u = .ref it ∧ Fresh1 X k T items pins σ H s it g lo o fp gp s'
/-- a generator def's promise: what stays true of the tuples, what is handed out -/
abbrev SpG1 := List V → Hp → (Hp → Prop) → List Item → Prop
structure GFn1 (P : Program) (w : World) (K : PySem.W.Frag) (mg : Str → Option Value) (base : Heap) (k : Nat) (f : Addr) (fd : FuncData) (ps : List Str) (sp : SpG1) : Prop where
  len : ∀ vs H T items, sp vs H T items → vs.length = ps.length
  run : ∀ (X : Cx), X.prog = P → X.w = w → X.K = K → X.mg = mg → X.base = base → Room 1 X.A → ∀ (pins : Pl) (σ : L2.St) (H : Hp) (s : Shared) (args : Args) (us : List Value) (vs : List V) (T : Hp → Prop) (items : List Item),
    In1 X pins σ H s → BindsTo s fd args (ps.zip us) → Vals vs us → sp vs H T items → codeAny (Md P w) X.A (.call (.ref f) args) (fun r s' => match r with | .ok (.ret u) => Made X k T items pins σ H s u s' | _ => False) s

section
variable {P : Program} {w : World}
theorem md_gencall {A : Around} {s : Shared} {R : Result → Shared → Prop} {a : Addr} {args : Args} {o : Obj} {fd : FuncData} {body : List Stmt} (hroom : A.depth < recursionLimit) (ho : s.heap.get? a = some o) (hd' : o.data = .func fd) (hco : fd.scope.isCoroutine = false)
    (hgen : fd.scope.isGenerator = true) (hbody : fd.body = .stmts body) (hcd : s.heap.CodeRec fd.code fd.qualname)
    (h : wpAny (Md P w) A.in1 (bindArgs fd args) (fun binds s1 => wpAny (Md P w) A.in1 (newFunctionEnv fd.scope fd.globals fd.closure binds (fd.qualname ++ ".<locals>.") (some a) fd.code none fd.builtins)
        (fun env s2 => s2.heap.NoLimit ∧ R (.ok (.ret (.ref s2.heap.objs.size)))
          { s2 with gens := s2.gens.push (.fresh (.func body env)), toks := s2.toks + 1 + 1, heap := s2.heap.push { cls := .type "generator", data := .fields #[.int s2.gens.size 0, .str fd.name s2.toks, .str fd.qualname (s2.toks + 1)] } }) no s1) no s) :
    codeAny (Md P w) A (.call (.ref a) args) R s := by
  refine md_tree ?_
  show wpAny (Md P w) A.in1 (callAny (.ref a) args) _ _ s
  simp only [callAny]
  refine wpAny_bind (wpAny_load ho ?_)
  obtain ⟨c, oc, vs, tq, hc, hoc, hdc, hq⟩ := hcd
  simp only [hd', callFunction, hco, hgen, hbody, hc]
  rw [hc] at h
  refine wpAny_bind (m := field (.ref c) 1) (wpAny_field hoc hdc hq (wpAny_bind (wpAny_pure ?_)))
  refine wpAny_bind (wpAny_mono h (fun binds s1 h1 => ?_) fun _ _ z => z.elim)
  refine wpAny_bind (wpAny_mono h1 (fun env s2 h2 => ?_) fun _ _ z => z.elim)
  refine wpAny_bind (wpAny_enterFrame h2.1 hroom ?_)
  simp only [newGenerator, newFields]
  exact wpAny_bind (wpAny_bind (wpAny_newGen (wpAny_bind (wpAny_mkText (wpAny_bind (wpAny_mkText (wpAny_newObj_type (wpAny_pure h2.2) (by size_fits))))))))
end
theorem allBare_push {s : Array GenState} {c : Code} (h : AllBare s) : AllBare (s.push (.fresh c)) := fun x hx => by
  rcases Array.mem_push.mp hx with hx | hx
  · exact h x hx
  · rw [hx]; rfl
theorem told_push {T : Addr → Prop} {s : Shared} {s' : Shared} {c : Code} (h : Told T s) (e : s'.gens = s.gens.push (.fresh c)) : Told T s' := fun i k a c' p fs cl q => by
  rw [e] at q
  rcases Nat.lt_trichotomy i s.gens.size with hi | hi | hi
  · rw [Array.getElem?_push_lt hi] at q
    exact h i k a c' p fs cl (by rw [Array.getElem?_eq_getElem hi]; exact q)
  · subst hi
    rw [Array.getElem?_push_size] at q
    cases q
  · rw [Array.getElem?_eq_none (by simp; omega)] at q
    cases q

theorem gfn1_of {P : Program} {w : World} {K : PySem.W.Frag} {mg : Str → Option Value} {base : Heap} {k : Nat} {f : Addr} {name qual : Str} {params : Arguments} {body : List Stmt} {scope : Scope} {dV kV doc pm cdv ct oc : Value} {an od : Option Addr}
    {osl : Array (Option Value)} {N ps : List Str} {sp : SpG1} (lk : K.lookup f = some ⟨oc, od, .func (PySem.W.fnOf name qual params body scope dV kV doc pm an cdv ct), osl⟩) (hcd : PySem.W.codeIn K cdv qual = true) (S : GScope N ps scope)
    (hcel : ∀ n, cellsFrom n scope.names [] = []) (hnc : ∀ x, scope.names.lookup x ≠ some .cell ∧ scope.names.lookup x ≠ some .free) (tm : ∀ vs H T items, sp vs H T items → T H ∧ ∀ H1 H2, Ext H1 H2 → T H1 → T H2)
    (len : ∀ vs H T items, sp vs H T items → vs.length = ps.length)
    (hbody : ∀ (L : Addr) (g : Nat) (vs : List V) (H : Hp) (T : Hp → Prop) (items : List Item), GX.Ok ⟨P, w, K, mg, base, k, N, qual, scope, f, cdv, L, g, T⟩ → sp vs H T items →
      Res ⟨P, w, K, mg, base, k, N, qual, scope, f, cdv, L, g, T⟩ items (.fresh (.func body (envOfC qual scope L f cdv))) [] [] (start N vs)) :
    GFn1 P w K mg base (k + 1) f (PySem.W.fnOf name qual params body scope dV kV doc pm an cdv ct) ps sp := by
  refine ⟨len, fun X hP hw hK hmg hbase hr pins σ H s args us vs T items I hb r hsp => ?_⟩
  subst hP hw hK hmg hbase
  have hl := len _ _ _ _ hsp
  have e0 := I.inv.env0
  have hkind : ∀ y ∈ ps.zip us, scope.names.lookup y.1 = some .local ∨ (scope.names.lookup y.1 = some .cell ∧ ((cellsFrom (s.heap.objs.size + 1) scope.names []).lookup y.1).isSome = true) := fun ⟨n, v⟩ hy => by
    rcases S.par n (List.of_mem_zip hy).1 with q | q
    · exact .inl q
    · exact .inr ⟨q, PySem.W.cellsFrom_some _ _ _ (.inl q)⟩
  refine md_gencall hr.depth (I.inv.kIn _ _ lk) rfl S.co S.gen rfl (PySem.W.codeRec_of I.inv.kIn hcd) (hb _ _ _ _ ?_)
  refine wpAny_newFunctionEnv_cells S.kind hkind fun env he s1 x => ?_
  subst he
  have lim1 : s1.heap.NoLimit := I.inv.nolimit.keeps x.toInCall.keep
  refine ⟨lim1, ?_⟩
  obtain ⟨h1, tk, es1, hk1⟩ := x.done
  have J := inv_startG (E := fun _ _ _ => False) S hr.hd e0 hl r x
  have lt1 : s.heap.objs.size < s1.heap.objs.size := x.toInCall.ns.lt
  let G : GX := ⟨X.prog, X.w, X.K, X.mg, X.base, k, N, qual, scope, f, cdv, s.heap.objs.size, s.gens.size, T⟩
  have gok : G.Ok := ⟨I.inv.ok.mod, S.kind, hcel _, hnc, Nat.le_trans I.inv.ok.bsz I.inv.sz, (tm _ _ _ _ hsp).2⟩
  -- the frame's object
  obtain ⟨oL, hoL, locL⟩ : ∃ oL, s1.heap.get? s.heap.objs.size = some oL ∧ LocOk G (start N vs) oL := by
    obtain ⟨m, ⟨o, es, ep, ho, hd, hk, hf⟩, hlv⟩ := J.loc
    refine ⟨o, ho, m, es, ep, hd, hk, hf, J.len, fun i y v e1 e2 e3 => ?_⟩
    obtain ⟨u, rv, l⟩ := hlv i y v e1 e2 e3
    refine ⟨u, rv, ?_⟩
    rcases l with ⟨k, e⟩ | ⟨k, _⟩
    · exact ⟨k, e⟩
    · rcases k with k | k
      · exact absurd k (hnc y).1
      · exact absurd k (hnc y).2
  have gen1 : s1.gens = s.gens := by rw [es1]
  have res : Res G items (.fresh (.func body (envOfC qual scope s.heap.objs.size f cdv))) [] [] (start N vs) := hbody s.heap.objs.size s.gens.size vs H T items gok hsp
  have gd := gd_of gok (it := s1.heap.objs.size) items locL (own := []) (gp := []) (fun _ z => nomatch z) (fun _ z => nomatch z) (by intro z; cases z) (by intro z; cases z) res
  let o : Obj := { cls := .type "generator", data := .fields #[.int s1.gens.size 0, .str name s1.toks, .str qual (s1.toks + 1)] }
  have kp : ∀ b ob, s.heap.get? b = some ob → (s1.heap.push o).get? b = some ob := fun b ob e => Heap.get?_push_of_some _ (x.toInCall.keep b ob e)
  have hn1 : H s1.heap.objs.size = none := I.inv.hok.fresh (Nat.le_of_lt lt1)
  have hnL : H s.heap.objs.size = none := I.inv.hok.fresh (Nat.le_refl _)
  have itok : FpOk X pins H s1.heap.objs.size := I.inv.fpOk (Nat.le_of_lt lt1) hn1
  have Lok : FpOk X pins H s.heap.objs.size := I.inv.fpOk (Nat.le_refl _) hnL
  have I1 : Inv X pins σ H { s with heap := s1.heap.push o } := I.inv.kept kp
  have I2 : In1 X pins σ H { s1 with gens := s1.gens.push (.fresh (.func body (envOfC qual scope s.heap.objs.size f cdv))), toks := s1.toks + 1 + 1, heap := s1.heap.push o } :=
    ⟨Inv.other I1 rfl (by show s1.os = s.os; rw [es1]) (by show AllBare (s1.gens.push _); rw [gen1]; exact allBare_push I.inv.bare), told_push I.told (by show s1.gens.push _ = _; rw [gen1])⟩
  refine ⟨s1.heap.objs.size, s.gens.size, s.heap.objs.size, o, _, _, rfl, gd, ⟨I2.inv.pins_of fun p hp => ?_, Told.mono I2.told (TP.mono fun p hp => List.mem_cons_of_mem _ (List.mem_cons_of_mem _ hp))⟩, fun p hp => ?_, itok, fun q hq => ?_, ⟨rfl, ⟨_, _, by rw [← gen1]⟩, .inl rfl⟩, Nat.le_refl _, Nat.le_of_lt lt1, Nat.le_refl _, ?_, ?_, I2.told, (tm _ _ _ _ hsp).1, (tm _ _ _ _ hsp).2⟩
  · rcases List.mem_cons.mp hp with rfl | hp
    · exact ⟨Heap.get?_push_of_some _ hoL, hnL, Lok.2.1, Lok.2.2.1, fun v z => by obtain ⟨m, es, ep, d, _⟩ := locL; rw [show oL.data = _ from z] at d; cases d⟩
    · rcases List.mem_cons.mp hp with rfl | hp
      · exact ⟨Heap.get?_push_size _ rfl, hn1, itok.2.1, itok.2.2.1, fun v z => by cases z⟩
      · exact I2.inv.pin p (List.mem_append_right _ hp)
  · rcases List.mem_cons.mp hp with rfl | hp
    · refine ⟨Lok.1, Lok.2.1, Lok.2.2.1, Lok.2.2.2.1, Lok.2.2.2.2.1, fun q hq => ?_⟩
      rcases List.mem_append.mp hq with hq | hq
      · exact Lok.2.2.2.2.2 q (List.mem_append_left _ hq)
      · rcases List.mem_cons.mp hq with rfl | hq
        · exact Nat.ne_of_gt lt1
        · exact Lok.2.2.2.2.2 q (List.mem_append_right _ hq)
    · exact nomatch hp
  · rcases List.mem_cons.mp hq with rfl | hq
    · show (s1.gens.push _)[s.gens.size]? = _
      rw [gen1, Array.getElem?_push_size]
      rfl
    · exact nomatch hq
  · show s.heap.objs.size ≤ (s1.heap.push o).objs.size
    rw [Heap.size_push]
    exact Nat.le_succ_of_le (Nat.le_of_lt lt1)
  · show s.gens.size ≤ (s1.gens.push _).size
    rw [gen1, Array.size_push]
    exact Nat.le_succ _
end Gk
/-! «yield from» over a generator. -/
namespace Gk
open PySem PySem.Spec PyProof.Rows L2
open Sem (wp)

theorem Inv.reA {X : Cx} {pins : Pl} {σ : L2.St} {H : Hp} {s : Shared} {A' : Around} (I : Inv X pins σ H s) (hf : A'.frames = X.A.frames) (hh : A'.handled = none) : Inv { X with A := A' } pins σ H s :=
  ⟨⟨I.ok.mod, I.ok.kind, I.ok.glob, I.ok.blt, I.ok.above, I.ok.inj, I.ok.has, I.ok.cab, fun _ => hh, hf.trans I.ok.frames, I.ok.stk, I.ok.exf, I.ok.bs, I.ok.bsz, I.ok.noex, I.ok.exfs, I.ok.funs, I.ok.frf⟩, I.os, I.bare, I.base, I.loc, I.cell, I.free, I.freeC, I.pin, I.hok, I.len⟩
theorem In1.reA {X : Cx} {pins : Pl} {σ : L2.St} {H : Hp} {s : Shared} {A' : Around} (I : In1 X pins σ H s) (hf : A'.frames = X.A.frames) (hh : A'.handled = none) : In1 { X with A := A' } pins σ H s := ⟨Inv.reA I.inv hf hh, I.told⟩
/-- a builtin's code over the frame that it came from -/
theorem over_blt {A : Around} {c c' : Code} {fs : List Frame} {k : Result → Sem PySem.Fin} {g : Bool} {l kp : List Value} {p : Pos} (hw : c'.weight = 0) (hu : c'.cUnits = 1) :
    A.over c' (.ret k none g l c p kp :: fs) = { A.over c fs with units := (A.over c fs).units + 1 } := by
  have e2 : A.depth + frameCount ((Frame.ret k none g l c p kp :: fs).map Frame.where_) + c'.weight = A.depth + frameCount (fs.map Frame.where_) + c.weight := by
    show A.depth + frameCount ((c, p) :: fs.map Frame.where_) + c'.weight = _
    rw [frameCount_cons, hw]; omega
  have e3 : pushEnvs c'.envs (pushEnvs (envsOf ((Frame.ret k none g l c p kp :: fs).map Frame.where_)) A.frames) = pushEnvs c.envs (pushEnvs (envsOf (fs.map Frame.where_)) A.frames) := by
    show pushEnvs c'.envs (pushEnvs (envsOf ((c, p) :: fs.map Frame.where_)) A.frames) = _
    rw [Code.envs_of_weight hw, envsOf_cons]
    simp only [pushEnvs_eq]
    cases A.frames <;> simp [List.append_assoc]
  have e4 : pushGuards c'.guards (pushGuards (guardsOf ((Frame.ret k none g l c p kp :: fs).map Frame.where_)) A.guards) = pushGuards c.guards (pushGuards (guardsOf (fs.map Frame.where_)) A.guards) := by
    show pushGuards c'.guards (pushGuards (guardsOf ((c, p) :: fs.map Frame.where_)) A.guards) = _
    rw [Code.guards_of_weight hw, guardsOf_cons]
    simp only [pushGuards_eq]
    cases A.guards <;> simp [List.append_assoc]
  have e5 : A.units + unitsOf ((Frame.ret k none g l c p kp :: fs).map Frame.where_) + c'.cUnits = A.units + unitsOf (fs.map Frame.where_) + c.cUnits + 1 := by
    show A.units + unitsOf ((c, p) :: fs.map Frame.where_) + c'.cUnits = _
    rw [unitsOf_cons, hu]; omega
  have e1 : (marksOver (Frame.ret k none g l c p kp :: fs) (A.handled, A.handled)).1 = (marksOver fs (A.handled, A.handled)).1 := rfl
  show (⟨(marksOver (Frame.ret k none g l c p kp :: fs) (A.handled, A.handled)).1, A.depth + frameCount ((Frame.ret k none g l c p kp :: fs).map Frame.where_) + c'.weight,
    pushEnvs c'.envs (pushEnvs (envsOf ((Frame.ret k none g l c p kp :: fs).map Frame.where_)) A.frames), pushGuards c'.guards (pushGuards (guardsOf ((Frame.ret k none g l c p kp :: fs).map Frame.where_)) A.guards),
    A.units + unitsOf ((Frame.ret k none g l c p kp :: fs).map Frame.where_) + c'.cUnits⟩ : Around) = _
  rw [e1, e2, e3, e4, e5]
  rfl
abbrev yfC (it : Addr) : Code := .builtin "proto.yield_from" ⟨[.ref it, .bool false, .none], []⟩
theorem yf_weight (it : Addr) : (yfC it).weight = 0 := by
  simp [Code.weight, Code.frames, Code.isFrame, Code.isCreation, Code.isGuard, Code.isCaller, guardIds]
theorem yf_units (it : Addr) : (yfC it).cUnits = 1 := by simp [Code.cUnits, Code.frames, Code.isFrame]
theorem yTo_yf (it : Addr) : yTo (yfC it) = some it := by
  show (if "proto.yield_from" = "proto.yield_from" then some it else none) = some it
  rw [if_pos rfl]
theorem den_eq (X : Cx) (c : Code) : denote table c = (model X.prog X.w).den c := rfl
theorem den_yf1 (X : Cx) (it : Addr) : denote table (yfC it) = Builtin.«proto.yield_from» ⟨[.ref it, .bool false, .none], []⟩ := (den_eq X _).trans (den_yf (X := X) (it := .ref it))
theorem close_gen : ∃ x, typeLookup (.type "generator") "close" = pure (some x) := by
  refine ⟨.builtin "generator.close", ?_⟩
  rw [typeLookup_type, builtinLookup_eq_fast]; kernel_rfl
theorem md_iter_gen {P : Program} {w : World} {A : Around} {E : Value → Shared → Prop} {s : Shared} {a : Addr} {g : Nat} {o : Obj} {Q : Value → Shared → Prop} (ho : s.heap.get? a = some o) (hg : Gen0 o g) (h : Q (.ref a) s) : wpAny (Md P w) A (pyIter (.ref a)) Q E s := by
  refine wpAny_pyIter_slot (hg.typeIs ho) slot_gen_iter (md_callSlot slot_gen_iter (hg.typeIs ho) entry_gen_iter ?_ (args_gen_iter _))
  show wpAny _ _ (ret (.ref a)) _ _ s
  exact wpAny_pure ⟨_, rfl, "generator", _, hg.typeIs ho, slot_gen_next.lookup, h⟩

section
variable {G : GX} {W : Wk} {own1 : Pl} {σ : L2.St} {H : Hp} {s : Shared} {it gc lo : Nat} {kc : Nat} {Tc : Hp → Prop} {fp : Pl} {gp : Gl1} {o : Obj} {A' : Around} {x : Item} {xs : List Item}
abbrev Gdc (G : GX) (kc : Nat) (Tc : Hp → Prop) (it gc lo : Nat) (items : List Item) (fp : Pl) (gp : Gl1) : Prop := Gd G.P G.w G.K G.mg G.base kc Tc it gc lo items fp gp
structure YfOk (G : GX) (W : Wk) (kc : Nat) (Tc : Hp → Prop) (it gc lo : Nat) (own1 : Pl) (A' : Around) : Prop where
  room : Room kc A'
  fr : A'.frames = some (G.env :: W.outer)
  tc : ∀ H, G.T H → Tc H
  lo : G.L < lo
theorem yf_pre (ok : G.Ok) (wok : W.Ok G) (y : YfOk G W kc Tc it gc lo own1 A') (r : Rn G W (fp ++ (it, o) :: own1) σ H s) (g : GOk gp s) (hg : Gen0 o gc) (hd : ∀ p ∈ fp, p.1 ≠ it ∧ ∀ q ∈ own1, q.1 ≠ p.1) :
    Host G.P G.w G.K G.mg G.base kc lo { G.cx W with A := A' } ∧ Pre { G.cx W with A := A' } lo Tc it gc fp gp ((it, o) :: own1 ++ W.tl) σ H s := by
  have I := r.inv
  have hfr : A'.frames = (G.cx W).A.frames := by rw [y.fr, I.inv.ok.frames]
  have hs0 : (cut W.s0.heap G.L).objs.size = G.L := cut_size (Nat.le_of_lt wok.lt)
  refine ⟨⟨rfl, rfl, rfl, rfl, rfl, rfl, y.room, fun b hb => ?_, fun b hb => .inr ?_, fun x c e => ?_⟩, ⟨?_, fun p hp => ?_, g, ?_, y.tc _ r.tt⟩⟩
  · rcases List.mem_cons.mp (show b ∈ G.L :: frs W.outer from hb) with e | hb
    · rw [e]; exact y.lo
    · exact Nat.lt_trans (wok.frs b hb) y.lo
  · show (cut W.s0.heap G.L).objs.size ≤ b
    rw [hs0]; exact Nat.le_trans (Nat.le_of_lt y.lo) hb
  · have e' : (cellsFrom (G.L + 1) G.scope.names []).lookup x = some c := e
    rw [ok.cells] at e'; cases e'
  · have e : fp ++ ((it, o) :: own1 ++ W.tl) = (fp ++ (it, o) :: own1) ++ W.tl := by simp
    rw [e]
    exact In1.reA I hfr y.room.hd
  · have q := I.inv.pin p (List.mem_append_right _ (List.mem_append_left _ (List.mem_append_left _ hp)))
    have a := r.apart p (List.mem_append_left _ hp)
    refine ⟨q.2.1, q.2.2.1, q.2.2.2.1, .inr ?_, fun x c e => ?_, fun z hz => ?_⟩
    · show (cut W.s0.heap G.L).objs.size ≤ p.1
      rw [hs0]; exact Nat.le_of_lt a.1
    · have e' : (cellsFrom (G.L + 1) G.scope.names []).lookup x = some c := e
      rw [ok.cells] at e'; cases e'
    · rcases List.mem_append.mp hz with hz | hz
      · exact a.2 z (List.mem_append_left _ hz)
      · rcases List.mem_append.mp hz with hz | hz
        · rcases List.mem_cons.mp hz with rfl | hz
          · exact Ne.symm (hd p hp).1
          · exact (hd p hp).2 z hz
        · exact a.2 z (List.mem_append_right _ hz)
  · exact ⟨o, (I.inv.pin (it, o) (List.mem_append_right _ (List.mem_append_left _ (List.mem_append_right _ List.mem_cons_self)))).1, hg⟩
theorem yf_post {fp' : Pl} {H' : Hp} {s' : Shared} (ok : G.Ok) (wok : W.Ok G) (y : YfOk G W kc Tc it gc lo own1 A') (r : Rn G W (fp ++ (it, o) :: own1) σ H s) (p : Post { G.cx W with A := A' } fp ((it, o) :: own1 ++ W.tl) σ H s fp' H' s') (hz : s.gens.size ≤ s'.gens.size) :
    Rn G W (fp' ++ (it, o) :: own1) σ H' s' ∧ ∀ p ∈ fp', p.1 ≠ it ∧ ∀ q ∈ own1, q.1 ≠ p.1 := by
  have hs0 : (cut W.s0.heap G.L).objs.size = G.L := cut_size (Nat.le_of_lt wok.lt)
  have hfr : (G.cx W).A.frames = A'.frames := by rw [y.fr, r.inv.inv.ok.frames]
  have J : In1 (G.cx W) ((fp' ++ (it, o) :: own1) ++ W.tl) σ H' s' := by
    have e : fp' ++ ((it, o) :: own1 ++ W.tl) = (fp' ++ (it, o) :: own1) ++ W.tl := by simp
    have q := p.inv
    rw [e] at q
    exact In1.reA (A' := (G.cx W).A) q hfr (r.inv.inv.ok.hd rfl)
  have dis : ∀ q ∈ fp', q.1 ≠ it ∧ ∀ z ∈ own1, z.1 ≠ q.1 := fun q hq => by
    have f := p.fpok q hq
    exact ⟨Ne.symm (f.2.2.2.2.2 (it, o) (List.mem_append_right _ (List.mem_append_left _ List.mem_cons_self))), fun z hz => f.2.2.2.2.2 z (List.mem_append_right _ (List.mem_append_left _ (List.mem_cons_of_mem _ hz)))⟩
  refine ⟨⟨J, fun q hq => ?_, r.ext.trans p.ext, ok.tm _ _ p.ext r.tt, Nat.le_trans r.sz p.sz, Nat.lt_of_lt_of_le r.gz hz⟩, dis⟩
  · rcases List.mem_append.mp hq with hq | hq
    · have f := p.fpok q hq
      refine ⟨?_, fun z hz => ?_⟩
      · have h1 : G.L ≤ q.1 := by
          rcases f.2.2.2.1 with z | z
          · exact absurd (show q.1 ∈ ([] : List Addr) from z) (by simp)
          · have z' : (cut W.s0.heap G.L).objs.size ≤ q.1 := z
            rw [hs0] at z'; exact z'
        exact Nat.lt_of_le_of_ne h1 (Ne.symm f.2.1)
      · rcases List.mem_append.mp hz with hz | hz
        · exact f.2.2.2.2.2 z (List.mem_append_left _ hz)
        · exact f.2.2.2.2.2 z (List.mem_append_right _ (List.mem_append_right _ hz))
    · exact r.apart q (List.mem_append_right _ hq)
theorem yf_item (ok : G.Ok) (wok : W.Ok G) (y : YfOk G W kc Tc it gc lo own1 A') (gd : Gdc G kc Tc it gc lo (x :: xs) fp gp) (r : Rn G W (fp ++ (it, o) :: own1) σ H s) (g : GOk gp s) (hg : Gen0 o gc) (hd : ∀ p ∈ fp, p.1 ≠ it ∧ ∀ q ∈ own1, q.1 ≠ p.1) :
    wpAny (Md G.P G.w) A' (callSpecial? (.ref it) "__next__") (fun rr s' => ∃ u v fp' gp' H', rr = some u ∧ RelV v u ∧ x v H' ∧ Rn G W (fp' ++ (it, o) :: own1) σ H' s' ∧ GOk gp' s' ∧ Sus gp' ∧ Gdc G kc Tc it gc lo xs fp' gp' ∧ ∀ p ∈ fp', p.1 ≠ it ∧ ∀ q ∈ own1, q.1 ≠ p.1) no s := by
  obtain ⟨ho, pre⟩ := yf_pre ok wok y r g hg hd
  obtain ⟨_, _, run⟩ := gd
  refine wpAny_mono (wpAny_gsz1 (Nat.le_refl _) (run { G.cx W with A := A' } ho _ σ H s (fun rr s' => ∃ u v fp' gp' H', rr = some u ∧ RelV v u ∧ x v H' ∧ Post { G.cx W with A := A' } fp ((it, o) :: own1 ++ W.tl) σ H s fp' H' s' ∧ GOk gp' s' ∧ Sus gp' ∧ Gdc G kc Tc it gc lo xs fp' gp') no pre fun u v fp' gp' H' s' rv hx po g' su gd' => ⟨u, v, fp', gp', H', rfl, rv, hx, po, g', su, gd'⟩)) ?_ fun _ _ z => z.2
  rintro rr s' ⟨hz, u, v, fp', gp', H', e, rv, hx, po, g', su, gd'⟩
  obtain ⟨r', d'⟩ := yf_post ok wok y r po hz
  exact ⟨u, v, fp', gp', H', e, rv, hx, r', g', su, gd', d'⟩
theorem yf_stop (ok : G.Ok) (wok : W.Ok G) (y : YfOk G W kc Tc it gc lo own1 A') (gd : Gdc G kc Tc it gc lo [] fp gp) (r : Rn G W (fp ++ (it, o) :: own1) σ H s) (g : GOk gp s) (hg : Gen0 o gc) (hd : ∀ p ∈ fp, p.1 ≠ it ∧ ∀ q ∈ own1, q.1 ≠ p.1) :
    wpAny (Md G.P G.w) A' (callSpecial? (.ref it) "__next__") (fun _ _ => False) (fun e s' => StopX e s'.heap ∧ ∃ fp' H', Rn G W (fp' ++ (it, o) :: own1) σ H' s') s := by
  obtain ⟨ho, pre⟩ := yf_pre ok wok y r g hg hd
  obtain ⟨_, _, run⟩ := gd
  refine wpAny_mono (wpAny_gsz1 (Nat.le_refl _) (run { G.cx W with A := A' } ho _ σ H s (fun _ _ => False) (fun e s' => ∃ fp' H', StopX e s'.heap ∧ Post { G.cx W with A := A' } fp ((it, o) :: own1 ++ W.tl) σ H s fp' H' s') pre fun e fp' H' s' hS po => ⟨fp', H', hS, po⟩)) (fun _ _ z => z.2) ?_
  rintro e s' ⟨hz, fp', H', hS, po⟩
  exact ⟨hS, fp', H', (yf_post ok wok y r po hz).1⟩
/-- the delegate's object is replaced -/
theorem rn_swap {own2 : Pl} {o o' : Obj} {h' : Heap} (r : Rn G W (own2 ++ (it, o) :: own1) σ H s) (h2 : ∀ p ∈ own2, p.1 ≠ it) (h1 : ∀ p ∈ own1, p.1 ≠ it) (hb : Heap.SameBut it s.heap h') (e : h'.get? it = some o') (hd : ∀ v, o'.data ≠ .cell v) (hg : Gk.isG o' = true) : Rn G W (own2 ++ (it, o') :: own1) σ H { s with heap := h' } := by
  have I := r.inv.inv
  have ap := r.apart (it, o) (List.mem_append_right _ List.mem_cons_self)
  have q := I.pin (it, o) (List.mem_append_right _ (List.mem_append_left _ (List.mem_append_right _ List.mem_cons_self)))
  have I0 : Inv (G.cx W) W.tl σ H s := I.pins_of fun p hp => I.pin p (List.mem_append_right _ (List.mem_append_right _ hp))
  have kp : ∀ b ob, b ≠ it → s.heap.get? b = some ob → h'.get? b = some ob := fun b ob hb' eb => (hb.2 b hb').trans eb
  have hle : (G.cx W).s_0.heap.objs.size ≤ it := Nat.le_trans I.ok.above (Nat.le_of_lt ap.1)
  have J : Inv (G.cx W) W.tl σ H { s with heap := h' } := I0.turned (t' := s.toks) kp q.2.1 q.2.2.1 (.inr hle) (fun x c ec => by
    obtain ⟨v, ob, eo, do_⟩ := I.cell x c ec
    rintro rfl
    rw [q.1] at eo; cases eo
    exact q.2.2.2.2 v do_) fun p hp => ap.2 p hp
  refine ⟨⟨J.pins_of fun p hp => ?_, fun i k a c p fs cl ee => ?_⟩, fun p hp => ?_, r.ext, r.tt, by show _ ≤ h'.objs.size; rw [hb.1]; exact r.sz, r.gz⟩
  · rcases List.mem_append.mp hp with hp | hp
    · rcases List.mem_append.mp hp with hp | hp
      · have z := I.pin p (List.mem_append_right _ (List.mem_append_left _ (List.mem_append_left _ hp)))
        exact ⟨kp _ _ (h2 p hp) z.1, z.2⟩
      · rcases List.mem_cons.mp hp with rfl | hp
        · exact ⟨e, q.2.1, q.2.2.1, q.2.2.2.1, hd⟩
        · have z := I.pin p (List.mem_append_right _ (List.mem_append_left _ (List.mem_append_right _ (List.mem_cons_of_mem _ hp))))
          exact ⟨kp _ _ (h1 p hp) z.1, z.2⟩
    · exact J.pin p (List.mem_append_right _ hp)
  · obtain ⟨ob, hm, hg'⟩ := r.inv.told i k a c p fs cl ee
    rcases List.mem_append.mp hm with hm | hm
    · rcases List.mem_append.mp hm with hm | hm
      · exact ⟨ob, List.mem_append_left _ (List.mem_append_left _ hm), hg'⟩
      · rcases List.mem_cons.mp hm with em | hm
        · cases em
          exact ⟨o', List.mem_append_left _ (List.mem_append_right _ List.mem_cons_self), hg⟩
        · exact ⟨ob, List.mem_append_left _ (List.mem_append_right _ (List.mem_cons_of_mem _ hm)), hg'⟩
    · exact ⟨ob, List.mem_append_right _ hm, hg'⟩
  · rcases List.mem_append.mp hp with hp | hp
    · exact r.apart p (List.mem_append_left _ hp)
    · rcases List.mem_cons.mp hp with rfl | hp
      · exact ap
      · exact r.apart p (List.mem_append_right _ (List.mem_cons_of_mem _ hp))
end
end Gk
/-! The turns of «yield from» over a generator. -/
namespace Gk
open PySem PySem.Spec PyProof.Rows L2
open Sem (wp)

section
variable {G : GX} {own1 : Pl} {σ : L2.St} {it gc lo : Nat} {kc : Nat} {Tc : Hp → Prop} {rest : List Item} {fs : List Frame}
theorem yf_turns (ok : G.Ok) (hgc : G.g < gc) (hit : ∀ q ∈ own1, q.1 ≠ it) (hy : ∀ W : Wk, W.Ok G → YfOk G W kc Tc it gc lo own1 (W.A.over (yfC it) fs)) (hsp : splitAtGen fs = none) (hgd : fs.any Frame.guarded = false)
    (hend : ∀ W : Wk, W.Ok G → ∀ own' s H, Sub own1 own' → Rn G W own' σ H s → Sg G.P G.w (Ph G rest W) W.A (yfC it) (.pure (.done (.ret .none))) fs s) :
    ∀ (items : List Item) (W : Wk), W.Ok G → ∀ (s : Shared) (H : Hp) (fp : Pl) (gp : Gl1) (o : Obj), Gdc G kc Tc it gc lo items fp gp → Rn G W (fp ++ (it, o) :: own1) σ H s → GOk gp s → Gen0 o gc → (∀ p ∈ fp, p.1 ≠ it ∧ ∀ q ∈ own1, q.1 ≠ p.1) →
      Sg G.P G.w (Ph G (items ++ rest) W) W.A (yfC it) (denote table (yfC it)) fs s := by
  intro items
  induction items with
  | nil =>
    intro W wok s H fp gp o gd r g hg hd
    rw [den_yf1 (G.cx W)]
    unfold Builtin.«proto.yield_from»
    try dsimp only
    refine sg_bind (wpAny_pure ?_)
    try dsimp only
    refine sg_bind (wpAny_attempt (wpAny_holding ?_))
    rw [if_neg Bool.false_ne_true, if_pos (show (Value.none == Value.none) = true from rfl)]
    refine wpAny_bind (wpAny_rule (wpAny_bind ?_))
    refine wpAny_mono (yf_stop ok wok (hy W wok) gd r g hg hd) (fun _ _ z => z.elim) ?_
    rintro e s' ⟨⟨a, oe, vs, rfl, hoa, hcls, hdat, h5⟩, fp', H', r'⟩
    try dsimp only
    refine sg_bind (wpAny_endsTurn hoa hcls ?_)
    try dsimp only
    rw [if_pos rfl]
    first
      | refine sg_bind (wpAny_rule ?_)
      | (rw [if_neg Bool.false_ne_true]; refine sg_bind (wpAny_rule ?_))
      | (rw [if_neg Bool.false_ne_true]; refine sg_bind (wpAny_pure ?_); refine sg_bind (wpAny_rule ?_))
    refine sg_bind (wpAny_field hoa hdat h5 ?_)
    exact hend W wok _ _ H' (fun p hp => List.mem_append_right _ (List.mem_cons_of_mem _ hp)) r'
  | cons x xs ih =>
    intro W wok s H fp gp o gd r g hg hd
    obtain ⟨xc, hxc⟩ := close_gen
    rw [den_yf1 (G.cx W)]
    unfold Builtin.«proto.yield_from»
    try dsimp only
    refine sg_bind (wpAny_pure ?_)
    try dsimp only
    refine sg_bind (wpAny_attempt (wpAny_holding ?_))
    rw [if_neg Bool.false_ne_true, if_pos (show (Value.none == Value.none) = true from rfl)]
    refine wpAny_bind (wpAny_rule (wpAny_bind ?_))
    refine wpAny_mono (yf_item ok wok (hy W wok) gd r g hg hd) ?_ fun _ _ z => z.elim
    rintro rr s1 ⟨u, v, fp', gp', H', rfl, rv, hx, r1, g1, su1, gd1, hd1⟩
    refine wpAny_pure ?_
    try dsimp only
    have q := r1.inv.inv.pin (it, o) (List.mem_append_right _ (List.mem_append_left _ (List.mem_append_right _ List.mem_cons_self)))
    refine sg_bind (wpAny_typeOf (T := "generator") ⟨o, q.1, hg.cls⟩ ?_)
    try dsimp only
    first
      | (refine sg_bind (wpAny_of_eq hxc ?_); refine sg_bind (wpAny_pure ?_))
      | refine sg_bind (wpAny_bind (wpAny_of_eq hxc (wpAny_pure ?_)))
      | refine sg_bind (wpAny_of_eq hxc ?_)
    try dsimp only
    refine sg_bind (wpAny_slept (g := gc) (n := 0) (b := true) q.1 hg.cls hg.data (hg.sl.imp (fun z => ⟨z, rfl⟩) fun z => z) fun h' o1 ho1 hg1 hs1 => ?_)
    have r2 := rn_swap r1 (fun p hp => (hd1 p hp).1) hit hs1 ho1 (fun v z => by obtain ⟨_, ⟨_, _, d⟩, _⟩ := hg1; rw [d] at z; cases z) hg1.isG
    show Sg G.P G.w (Ph G (x :: (xs ++ rest)) W) W.A (yfC it) (.yield u true [] _) fs _
    refine sg_yieldG (yTo_yf it) ho1 hg1.isG hsp fun p => ?_
    refine ⟨u, _, _, _, p, fs, v, fp' ++ (it, o1) :: own1, gp', σ, H', rfl, hgd, rv, hx, r2, g1, fun q hq => ?_, su1, fun a e => ?_, fun W2 wok2 s2 H2 r3 g3 => ?_⟩
    · have := gd1
      cases xs with
      | nil => exact Nat.lt_of_lt_of_le hgc (this.2.1 q hq)
      | cons y ys => exact Nat.lt_of_lt_of_le hgc (this.2.1 q hq)
    · cases e
      exact ⟨o1, List.mem_append_right _ List.mem_cons_self, hg1.isG⟩
    · -- woken again
      have q3 := r3.inv.inv.pin (it, o1) (List.mem_append_right _ (List.mem_append_left _ (List.mem_append_right _ List.mem_cons_self)))
      refine sg_bind (wpAny_pure ?_)
      refine sg_bind (wpAny_slept (g := gc) (n := 1) (b := false) q3.1 hg1.1 hg1.2.1 (.inr hg1.2.2) fun h3 o2 ho2 hg2 hs2 => ?_)
      have r4 := rn_swap r3 (fun p hp => (hd1 p hp).1) hit hs2 ho2 (fun v z => by obtain ⟨_, ⟨_, _, d⟩, _⟩ := hg2; rw [d] at z; cases z) hg2.isG
      try dsimp only
      refine sg_bind (wpAny_pure ?_)
      exact sg_again (plainId_quiet plain_yf _) (ih W2 wok2 _ H2 fp' gp' o2 gd1 r4 g3 (Gen0.of hg2) hd1)
end
end Gk
/-! for i, x in enumerate(t) of a tuple. -/
namespace Gk
open PySem PySem.Spec PyProof.Rows L2
open Sem (wp)

theorem meets_enum1 {v : Value} {o : Obj} {Hc : Heap → Prop} (B : Begins v o Hc) :
    Meets (Builtin.«enumerate.__new__» ⟨[.type "enumerate", v], []⟩) (fun _ R s => Hc s.heap ∧
      R (.ok (.ret (.ref (s.heap.push o).objs.size))) { s with heap := (s.heap.push o).push { cls := .type "enumerate", data := .fields #[.none, .bool false, .ref s.heap.objs.size, rawInt 0, .none, .none] } }) :=
  .of_wp fun prog w A R s h => by
    obtain ⟨hp, g, d, tk, os⟩ := s
    obtain ⟨h1, h⟩ := h
    have hsub := sub_enumerate
    have q1 : ∀ {A' : Around} {E : Value → Shared → Prop} {Q : Value → Shared → Prop}, Q (.ref hp.objs.size) ⟨hp.push o, g, d, tk, os⟩ → wpAny (model prog w) A' (pyIter v) Q E ⟨hp, g, d, tk, os⟩ := fun q => B.iter prog w _ _ ⟨hp, g, d, tk, os⟩ _ h1 q
    wp_walk using q1
    refine wpAny_stack_any fun st => wpAny_pure ?_
    split
    · rename_i c _ _ _ _ _
      cases (c == Value.type "enumerate") <;> (wp_walk using q1; exact ⟨_, rfl, h⟩)
    · wp_walk using q1
      exact ⟨_, rfl, h⟩
theorem enum_begins1 {prog : Program} {w : World} {A : Around} {E : Value → Shared → Prop} {s : Shared} {v : Value} {o : Obj} {Hc : Heap → Prop} {Q : Value → Shared → Prop} (B : Begins v o Hc) (h1 : Hc s.heap)
    (h : ∀ h', IsEnum h' (s.heap.objs.size + 1) s.heap.objs.size 0 .none → h'.get? s.heap.objs.size = some o → (∀ b o, s.heap.get? b = some o → h'.get? b = some o) → Q (.ref (s.heap.objs.size + 1)) { s with heap := h' }) :
    wpAny (model prog w) A (call (.type "enumerate") [v]) Q E s := by
  refine callType_new F.called_enumerate (by decide) (F.typeCall_enumerate_1 _) (F.newCall_enumerate_1 _) (fun obj => F.args_object_init_2 obj _) F.entry_enumerate_new (meets_enum1 B) ⟨h1, ?_⟩
  have hz : (s.heap.push o).objs.size = s.heap.objs.size + 1 := Heap.size_push ..
  have hz' : IsEnum ((s.heap.push o).push { cls := .type "enumerate", data := .fields #[.none, .bool false, .ref s.heap.objs.size, rawInt 0, .none, .none] }) (s.heap.objs.size + 1) s.heap.objs.size 0 .none := by
    have q := Heap.get?_push_size (s.heap.push o) (o := { cls := .type "enumerate", data := .fields #[.none, .bool false, .ref s.heap.objs.size, rawInt 0, .none, .none] }) rfl
    rw [hz] at q; exact q
  show _ ∧ _
  rw [hz]
  exact ⟨⟨_, hz', rfl⟩, h _ hz' (Heap.get?_push_of_some _ (Heap.get?_push_size _ B.free)) fun b o x => Heap.get?_push_of_some _ (Heap.get?_push_of_some _ x)⟩
end Gk
/-! Statements of a generator's body: «yield from f(..)», for over enumerate(t). -/
namespace Gk
open PySem PySem.Spec PyProof.Rows L2
open Sem (wp)

section
variable {G : GX} {W : Wk} {own : Pl} {σ : L2.St} {H : Hp} {s : Shared}
theorem rn_pa {es : List Expr} {t : TA} {pos : Pos} {Q : List V → Hp → Prop} (ok : G.Ok) (r : Rn G W own σ H s) (he : PA (G.cx W) es t) (ht : t σ H fun v H' => Ext H H' ∧ Q v H') :
    wpAny (Md G.P G.w) (G.cx W).A (spliced (backTo pos (starEach es G.env))) (fun us s' => ∃ vs H', Rn G W own σ H' s' ∧ Vals vs us ∧ Q vs H') no s :=
  wpAny_mono (rn_step (R := fun us σ' H' => σ' = σ ∧ ∃ vs, Vals vs us ∧ Q vs H') ok r (wpAny_mono (he.run pos _ _ σ H _ (Inv.lulled r.inv.inv) ht) (fun u sh ⟨v, H', J, rv, e, q⟩ => ⟨σ, H', J, e, rfl, v, rv, q⟩) fun _ _ z => z))
    (fun u s' ⟨σ', H', r', e, v, rv, q⟩ => by subst e; exact ⟨v, H', r', rv, q⟩) fun _ _ z => z
theorem rn_pg {tg : Expr} {g : TG} {x : V} {u : Value} {Q : L2.St → Hp → Prop} (ok : G.Ok) (r : Rn G W own σ H s) (hg : PG (G.cx W) tg g) (rv : RelV x u) (ht : g x σ H fun σ' H' => Ext H H' ∧ Q σ' H') :
    wpAny (Md G.P G.w) (G.cx W).A (assign tg G.env u) (fun _ s' => ∃ σ' H', Rn G W own σ' H' s' ∧ Q σ' H') no s :=
  rn_step (R := fun _ σ' H' => Q σ' H') ok r (wpAny_mono (hg.run _ _ σ H x u _ (Inv.lulled r.inv.inv) rv ht) (fun _ sh ⟨σ', H', J, e, q⟩ => ⟨σ', H', J, e, q⟩) fun _ _ z => z)
/-- what was made among a frame's own -/
theorem rn_made {kc : Nat} {T : Hp → Prop} {items : List Item} {it g lo : Nat} {o : Obj} {fp : Pl} {gp : Gl1} {s' : Shared} (wok : W.Ok G) (r : Rn G W own σ H s) (m : Fresh1 (G.cx W) kc T items (own ++ W.tl) σ H s it g lo o fp gp s') (hfp : ∀ p ∈ fp, lo ≤ p.1) :
    Rn G W (fp ++ (it, o) :: own) σ H s' ∧ (∀ q ∈ own, q.1 ≠ it) ∧ (∀ p ∈ fp, p.1 ≠ it ∧ ∀ q ∈ own, q.1 ≠ p.1) ∧ G.L < lo := by
  have hL : G.L < lo := Nat.lt_of_lt_of_le (Nat.lt_of_lt_of_le wok.lt r.sz) m.los
  have J : In1 (G.cx W) ((fp ++ (it, o) :: own) ++ W.tl) σ H s' := by
    have e : fp ++ (it, o) :: (own ++ W.tl) = (fp ++ (it, o) :: own) ++ W.tl := by simp
    have q := m.inv
    rw [e] at q
    exact q
  refine ⟨⟨J, fun p hp => ?_, r.ext, r.tt, Nat.le_trans r.sz m.sz, Nat.lt_of_lt_of_le r.gz m.gz⟩, fun q hq => m.itok.2.2.2.2.2 q (List.mem_append_right _ (List.mem_append_left _ hq)), fun p hp => ?_, hL⟩
  · rcases List.mem_append.mp hp with hp | hp
    · have f := m.fpok p hp
      refine ⟨Nat.lt_of_lt_of_le hL (hfp p hp), fun q hq => ?_⟩
      rcases List.mem_append.mp hq with hq | hq
      · exact f.2.2.2.2.2 q (List.mem_append_left _ hq)
      · exact f.2.2.2.2.2 q (List.mem_append_right _ (List.mem_cons_of_mem _ (List.mem_append_right _ hq)))
    · rcases List.mem_cons.mp hp with rfl | hp
      · refine ⟨Nat.lt_of_lt_of_le hL m.lit, fun q hq => ?_⟩
        rcases List.mem_append.mp hq with hq | hq
        · exact m.itok.2.2.2.2.2 q (List.mem_append_left _ hq)
        · exact m.itok.2.2.2.2.2 q (List.mem_append_right _ (List.mem_append_right _ hq))
      · exact r.apart p hp
  · have f := m.fpok p hp
    exact ⟨Ne.symm (f.2.2.2.2.2 (it, o) (List.mem_append_right _ List.mem_cons_self)), fun q hq => f.2.2.2.2.2 q (List.mem_append_right _ (List.mem_cons_of_mem _ (List.mem_append_left _ hq)))⟩
end
theorem gd_lo {P : Program} {w : World} {K : PySem.W.Frag} {mg : Str → Option Value} {base : Heap} {k : Nat} {T : Hp → Prop} {it g lo : Nat} {items : List Item} {fp : Pl} {gp : Gl1} (h : Gd P w K mg base k T it g lo items fp gp) : ∀ p ∈ fp, lo ≤ p.1 := by
  cases items with
  | nil => exact h.1
  | cons x xs => exact h.1
theorem ld_glob1 {X : Cx} {E : Value → Shared → Prop} {pins : Pl} {s : Shared} {σ : L2.St} {H : Hp} {x : Str} {u : Value} {pos : Pos} {Q : Value → Shared → Prop} (I : Inv X pins σ H s) (hg : L2.Gl X x) (hm : X.mg x = some u) (h : Q u s)
    (hd : (x == ("__debug__" : Str)) = false := by decide) : wpAny (Md X.prog X.w) X.A (eval (.Name x pos) X.env) Q E s :=
  Calls.Name_function_global I.ok.kind hg (Calls.loadGlobal_global (by rw [I.ok.glob]; exact I.mod.glob.keeps I.bk) hm h) hd

section
variable {G : GX} {W : Wk} {own : Pl} {σ : L2.St} {H : Hp} {s : Shared} {kc : Nat} {f : Addr} {fd : FuncData} {ps : List Str} {sp : SpG1} {ds : List Value} {dvs : List V}
/-- f(e, ..) of a generator def, within a generator's frame -/
theorem rn_gencall {x : Str} {p pos : Pos} {e : Expr} {es : List Expr} {t : TA} {Tc : Hp → Prop} {items : List Item} (ok : G.Ok) (wok : W.Ok G) (F : GFn1 G.P G.w G.K G.mg G.base kc f fd ps sp) (hr : Room 1 (G.cx W).A) (hg : L2.Gl (G.cx W) x) (hm : G.mg x = some (.ref f)) (hk : PySem.W.keepIn G.K (.ref f) = true)
    (hb : Binds G.K fd ps ds) (hd : Vals dvs ds) (ha : PA (G.cx W) (e :: es) t) (r : Rn G W own σ H s) (ht : t σ H fun vs H1 => Ext H H1 ∧ sp (vs ++ dvs) H1 Tc items)
    (hdb : (x == ("__debug__" : Str)) = false := by decide) (he : starEach (e :: es) G.env = (false, eval e G.env) :: starEach es G.env := by rfl) (hpl : (backTo pos (starEach es G.env)).any (·.1) = false := by rfl) :
    wpAny (Md G.P G.w) (G.cx W).A (eval (.Call (.Name x p) (e :: es) [] pos) G.env) (fun u s' => ∃ H1 s1, Rn G W own σ H1 s1 ∧ Made (G.cx W) kc Tc items (own ++ W.tl) σ H1 s1 u s') no s := by
  refine wpAny_Call_Name_kw (ld_glob1 (X := G.cx W) r.inv.inv hg hm ?_ hdb)
  refine PySem.W.callWith_K (h₀ := G.base) ok.mod.kin hk (wpAny_mono (rn_pa (pos := pos) ok r ha ht) (fun us s1 ⟨vs, H1, r1, rv, hsp⟩ => ⟨r1.inv.inv.kIn, ?_⟩) fun _ _ z => z) he hpl
  have r2 : Vals (vs ++ dvs) (us ++ ds) := rv.append hd
  have hl : (us ++ ds).length = ps.length := by rw [← r2.length]; exact F.len _ _ _ _ hsp
  refine wpAny_call (codeAny_mono (F.run (G.cx W) rfl rfl rfl rfl rfl hr (own ++ W.tl) σ H1 s1 ⟨us, []⟩ (us ++ ds) (vs ++ dvs) Tc items r1.inv (hb s1 us r1.inv.inv.kIn hl) r2 hsp) fun rr s' hq => ?_)
  cases rr with
  | error e => exact False.elim hq
  | ok fl =>
    cases fl with
    | ret u => exact ⟨H1, s1, r1, hq⟩
    | next => exact False.elim hq
    | brk => exact False.elim hq
    | cont => exact False.elim hq

variable {c : Code} {fs : List Frame} {K : Flow → Sem PySem.Fin} {J : Value → Sem PySem.Fin} {gd : Bool → Bool} {lv : List Value → List Value}
/-- «yield from f(..)» -/
theorem sg_yfrom {x : Str} {p pos yp spos : Pos} {e : Expr} {es : List Expr} {t : TA} {Tc : Hp → Prop} {items rest : List Item} (ok : G.Ok) (wok : W.Ok G) (F : GFn1 G.P G.w G.K G.mg G.base kc f fd ps sp) (hkc : kc + 1 ≤ G.k) (hk1 : 1 ≤ kc)
    (hg : L2.Gl (G.cx W) x) (hm : G.mg x = some (.ref f)) (hk : PySem.W.keepIn G.K (.ref f) = true) (hb : Binds G.K fd ps ds) (hd : Vals dvs ds) (ha : PA (G.cx W) (e :: es) t)
    (hT : ∀ H, G.T H → Tc H) (hover : ∀ W : Wk, W.Ok G → W.A.over c fs = (G.cx W).A) (hsp : splitAtGen fs = none) (hfg : fs.any Frame.guarded = false) (hgd : gd false = false)
    (hend : ∀ W : Wk, W.Ok G → ∀ own' s H, Sub own own' → Rn G W own' σ H s → Sg G.P G.w (Ph G rest W) W.A c (K .next) fs s)
    (r : Rn G W own σ H s) (ht : t σ H fun vs H1 => Ext H H1 ∧ sp (vs ++ dvs) H1 Tc items) (hi : interactive G.env = false)
    (hdb : (x == ("__debug__" : Str)) = false := by decide) (he : starEach (e :: es) G.env = (false, eval e G.env) :: starEach es G.env := by rfl) (hpl : (backTo pos (starEach es G.env)).any (·.1) = false := by rfl) :
    Sg G.P G.w (Ph G (items ++ rest) W) W.A c ((exec (.Expr (.YieldFrom (.Call (.Name x p) (e :: es) [] pos) yp) spos) G.env).wrap K J gd lv) fs s := by
  rw [exec_Expr G.env _ spos hi rfl]
  show Sg _ _ _ _ c (.at spos fun _ => ((eval (.Call (.Name x p) (e :: es) [] pos) G.env >>= fun v => (standAt yp >>= fun _ => yieldFrom G.env v)) >>= fun y => dropValue (.YieldFrom (.Call (.Name x p) (e :: es) [] pos) yp) spos y).wrap K J gd lv) fs s
  refine sg_at (sg_bindw2 ?_)
  rw [hover W wok]
  have hr1 : Room 1 (G.cx W).A := by
    have q : Room (1 + 1) W.A := wok.room.mono (by omega)
    exact q.deeper _
  refine wpAny_mono (rn_gencall ok wok F hr1 hg hm hk hb hd ha r ht hdb he hpl) ?_ fun _ _ z => z.elim
  rintro u s2 ⟨H1, s1, r1, it, g, lo, o, fp, gp, rfl, m⟩
  obtain ⟨r2, h1, h2, hL⟩ := rn_made wok r1 m (gd_lo m.gd)
  have hget := (r2.inv.inv.pin (it, o) (List.mem_append_right _ (List.mem_append_left _ (List.mem_append_right _ List.mem_cons_self)))).1
  refine sg_at ?_
  show Sg _ _ _ _ c ((yieldFrom G.env (.ref it)).wrap (fun b => (dropValue (.YieldFrom (.Call (.Name x p) (e :: es) [] pos) yp) spos b).wrap K J gd lv) J gd lv) fs s2
  unfold yieldFrom
  refine sg_bindw (wpAny_typeOf (m.obj.typeIs hget) ?_)
  rw [if_neg (by decide)]
  refine sg_bindw (wpAny_holding (md_iter_gen hget m.obj ?_))
  refine sg_call fun pp => ?_
  refine yf_turns ok (Nat.lt_of_lt_of_le r1.gz m.gs) h1 (fun W2 wok2 => ⟨?_, ?_, hT, hL⟩) ?_ ?_ (fun W2 wok2 own' s' H' hsub r' => ?_) items W wok s2 H1 fp gp o m.gd r2 m.gens m.obj h2
  · show Room kc (W2.A.over (yfC it) (.ret _ none _ _ c pp [] :: fs))
    rw [over_blt (yf_weight it) (yf_units it), hover W2 wok2]
    have q : Room (kc + 1) W2.A := wok2.room.mono hkc
    exact ⟨q.hd, by have := q.dp; show W2.A.depth + 1 + 3 * kc + 5 < _; omega, by have := q.un; show W2.A.units + 3 + 1 + 16 * kc + 200 < _; omega⟩
  · show (W2.A.over (yfC it) (.ret _ none _ _ c pp [] :: fs)).frames = _
    rw [over_blt (yf_weight it) (yf_units it), hover W2 wok2]
    exact Around.frames_deeper wok2.frames
  · show (splitAtGen fs).map _ = none
    rw [hsp]; rfl
  · show (gd false || fs.any Frame.guarded) = false
    rw [hgd, hfg]; rfl
  · exact sg_leaf (.ok (.ret .none)) (hend W2 wok2 own' s' H' hsub r')
end
end Gk
/-! Calls within the marked machine. -/
namespace Gk
open PySem PySem.Spec PyProof.Rows L2
open Sem (wp)

/-- a run that only reads -/
theorem wpAny_ro {α : Type} {P : Program} {w : World} {A : Around} {s : Shared} {t : Sem α} {R : α → Prop} (hb : AllBare s.gens) (h : wpAny (model P w) A t (fun a sh => R a ∧ sh = lulled s) no (lulled s)) : wpAny (Md P w) A t (fun a s' => R a ∧ s' = s) no s := by
  refine wpAny_mono (wpAny_bb hb h) (fun a s' ⟨_, sh, ⟨G, e, z⟩, r, e2⟩ => ⟨r, ?_⟩) fun _ _ ⟨_, _, _, z⟩ => z
  subst e2
  have key : G = s.gens := by
    refine Array.ext_getElem? fun i => ?_
    have hsz : (lulled s).gens.size = s.gens.size := by show (s.gens.map lull).size = _; simp
    rcases Nat.lt_or_ge i s.gens.size with hi | hi
    · have hx : (lulled s).gens[i]? = some (lull s.gens[i]) := by
        show (s.gens.map lull)[i]? = _
        rw [Array.getElem?_map, Array.getElem?_eq_getElem hi]; rfl
      rcases z.cases hx with ⟨k, l, c, p, fs, cl, h1, h2, _⟩ | ⟨h1, h2, _⟩
      · rw [h1, h2]
      · rw [h2, Array.getElem?_eq_getElem hi]
        cases q : s.gens[i] with
        | suspended k l c p fs cl => exact absurd (by rw [Array.getElem?_eq_getElem hi, q]) (h1 k l c p fs cl)
        | _ => rfl
    · rw [Array.getElem?_eq_none hi, Array.getElem?_eq_none (by rw [z.sz, hsz]; exact hi)]
  rw [e, key]; rfl
section
variable {X : Cx} {pins pins' : Pl} {σ : L2.St} {H H' : Hp} {s s' : Shared} {Q : VK} {u : Value}
theorem EP1.sub (hs : Sub pins pins') (h : EP1 X pins' σ Q u s') : EP1 X pins σ Q u s' := by
  obtain ⟨p2, v, H', z, r⟩ := h
  exact ⟨p2, v, H', hs.trans z, r⟩
theorem EP1.imp {Q' : VK} (hq : ∀ v H, Q v H → Q' v H) (h : EP1 X pins σ Q u s') : EP1 X pins σ Q' u s' := by
  obtain ⟨p2, v, H', z, J, r, q⟩ := h
  exact ⟨p2, v, H', z, J, r, hq _ _ q⟩
theorem TP1.sub {Q : Bool → Hp → Prop} {b : Bool} (hs : Sub pins pins') (h : TP1 X pins' σ Q b s') : TP1 X pins σ Q b s' := by
  obtain ⟨p2, H', z, r⟩ := h
  exact ⟨p2, H', hs.trans z, r⟩
/-- behind a call: the sleepers' objects that the callee has pinned are pinned here -/
theorem ep1_after (I : In1 X pins σ H s) {v : V} (os : s'.os = s.os) (bare : AllBare s'.gens) (un : Un (frs X.stack) [] H H' s.heap s'.heap) (hok : HOk X.prog X.w H' s'.heap) (rv : RelV v u) (q : Q v H') {p2 : Pl}
    (hp : ∀ p ∈ p2, s'.heap.get? p.1 = some p.2 ∧ H' p.1 = none ∧ p.1 ∉ frs X.stack) (ht : Told (TP p2) s') : EP1 X pins σ Q u s' := by
  have J : Inv X pins σ H' s' := I.inv.call' (ch := []) os un hok bare fun b z => absurd z (by simp)
  refine ⟨pins ++ p2.filter (fun p => Gk.isG p.2), v, H', fun p hp => List.mem_append_left _ hp, ⟨J.pins_of fun p hpp => ?_, fun i k a c p fs cl e => ?_⟩, rv, q⟩
  · rcases List.mem_append.mp hpp with hm | hm
    · exact J.pin p (List.mem_append_right _ hm)
    · obtain ⟨hm, hg⟩ := List.mem_filter.mp hm
      obtain ⟨h1, h2, h3⟩ := hp p hm
      have data : ∃ vs, p.2.data = .fields vs := by
        have hg' : Gk.isG p.2 = true := hg
        unfold Gk.isG Obj.genNumber? at hg'
        cases d : p.2.data with
        | fields vs => exact ⟨vs, rfl⟩
        | _ => rw [d] at hg'; simp at hg'
      obtain ⟨vs, hd⟩ := data
      refine ⟨h1, h2, fun z => ?_, fun z => ?_, fun w d => by rw [hd] at d; cases d⟩
      · obtain ⟨m, ⟨o2, es, ep, e2, d2, _⟩, _⟩ := J.loc
        rw [← z, h1] at e2
        cases e2
        rw [hd] at d2; cases d2
      · refine h3 ?_
        rcases J.ok.stk with e | ⟨e, hf⟩
        · rw [e]; exact z
        · rw [e]
          unfold frs
          rw [List.filterMap_cons, hf]
          exact List.mem_cons_of_mem _ z
  · obtain ⟨o, hm, hg⟩ := ht i k a c p fs cl e
    exact ⟨o, List.mem_append_right _ (List.mem_filter.mpr ⟨hm, hg⟩), hg⟩
end

theorem Inv.noxed {X : Cx} {pins : Pl} {σ : L2.St} {H : Hp} {s : Shared} (I : Inv X pins σ H s) : Inv X.nox pins σ H s :=
  ⟨⟨I.ok.mod, I.ok.kind, I.ok.glob, I.ok.blt, I.ok.above, I.ok.inj, I.ok.has, I.ok.cab, I.ok.hd, I.ok.frames, I.ok.stk, I.ok.exf, I.ok.bs, I.ok.bsz, I.ok.noex, I.ok.exfs, I.ok.funs, I.ok.frf⟩, I.os, I.bare, I.base, I.loc, I.cell, I.free, I.freeC, I.pin, I.hok, I.len⟩
/-- a def's promise in the marked machine -/
structure FnMd (P : Program) (w : World) (K : PySem.W.Frag) (mg : Str → Option Value) (base : Heap) (k : Nat) (f : Addr) (fd : FuncData) (ps : List Str) (sp : Sp) : Prop where
  len : ∀ vs H Q E, sp vs H Q E → vs.length = ps.length
  run : ∀ (X : Cx), X.prog = P → X.w = w → X.K = K → X.mg = mg → X.base = base → ∀ A, A.frames = some X.stack → Room k A → ∀ (pins : Pl) (σ : L2.St) (H : Hp) (s : Shared) (args : Args) (us : List Value) (vs : List V) (Q : VK),
    In1 X pins σ H s → (∀ s2 : Shared, s2.heap = s.heap → BindsTo s2 fd args (ps.zip us)) → Vals vs us → sp vs H Q E0 → codeAny (Md P w) A (.call (.ref f) args) (fun r s' => match r with | .ok (.ret u) => EP1 X pins σ Q u s' | _ => False) s
section
variable {P : Program} {w : World} {K : PySem.W.Frag} {mg : Str → Option Value} {base : Heap} {k : Nat} {f : Addr} {fd : FuncData} {ps : List Str} {sp : Sp}
theorem FnOk.md (F : FnOk P w K mg base CX0 k f fd ps sp) : FnMd P w K mg base k f fd ps sp := by
  refine ⟨F.len, fun X hP hw hK hmg hbase A hA hr pins σ H s args us vs Q I hb r hsp => ?_⟩
  subst hP hw hK hmg hbase
  have e0 := I.inv.env0
  have e1 : Env0 X.prog X.w X.K X.mg X.base A X.stack (lulled s) H := ⟨hA, e0.mod, e0.bs, e0.bsz, e0.funs, e0.frf, e0.hok, allBare_lulled e0.bare⟩
  have hb' : BindsTo (lulled s) fd args (ps.zip us) := hb _ rfl
  refine codeAny_mono (codeAny_bb I.inv.bare (F.run A X.stack (lulled s) H args us vs Q E0 hr e1 hb' r hsp)) fun rr s' ⟨_, sh, z, q⟩ => ?_
  cases rr with
  | error e => exact q.elim
  | ok fl =>
    cases fl with
    | ret u =>
      obtain ⟨v, H', J, rv, qq⟩ := (Inv.lulled I.inv).after q
      exact ⟨pins, v, H', .refl _, I.of_zb z J, rv, qq⟩
    | next => exact q.elim
    | brk => exact q.elim
    | cont => exact q.elim
theorem FnMd.mono {j : Nat} (F : FnMd P w K mg base j f fd ps sp) (h : j ≤ k) : FnMd P w K mg base k f fd ps sp :=
  ⟨F.len, fun X h1 h2 h3 h4 h5 A hA hr => F.run X h1 h2 h3 h4 h5 A hA (hr.mono h)⟩
end
abbrev cxMd (P : Program) (w : World) (K : PySem.W.Frag) (mg : Str → Option Value) (base : Heap) (N : List Str) (qual : Str) (scope : Scope) (f : Addr) (cd : Value) (A : Around) (outer : List Env) (s : Shared) (H : Hp) : Cx := (cxOf CX0 P w K mg base N qual scope f cd A outer s H E0).nox
theorem fn_md {P : Program} {w : World} {K : PySem.W.Frag} {mg : Str → Option Value} {base : Heap} {k : Nat} {f : Addr} {name qual : Str} {params : Arguments} {body : List Stmt} {scope : Scope} {dV kV doc pm cdv ct oc : Value} {an od : Option Addr}
    {osl : Array (Option Value)} {N ps : List Str} {sp : Sp} (lk : K.lookup f = some ⟨oc, od, .func (PySem.W.fnOf name qual params body scope dV kV doc pm an cdv ct), osl⟩) (hcd : PySem.W.codeIn K cdv qual = true) (S : FnScope N ps scope) (len : ∀ vs H Q E, sp vs H Q E → vs.length = ps.length)
    (hbody : ∀ (A : Around) (outer : List Env) (s : Shared) (H : Hp) (vs : List V) (Q : VK), Room k (A.deeper (envOfC qual scope s.heap.objs.size f cdv)) → (∀ b ∈ frs outer, b < s.heap.objs.size) → sp vs H Q E0 →
      ∃ t, PSs1 (cxMd P w K mg base N qual scope f cdv A outer s H) body t ∧ t { nx := fun _ H' => Q .non H', rt := Q } (start N vs) H) :
    FnMd P w K mg base (k + 1) f (PySem.W.fnOf name qual params body scope dV kV doc pm an cdv ct) ps sp := by
  refine ⟨len, fun X hP hw hK hmg hbase A hA hr pins σ H s args us vs Q I0 hb r hsp => ?_⟩
  subst hP hw hK hmg hbase
  have hl := len _ _ _ _ hsp
  have ee := I0.inv.env0
  have e0 : Env0 X.prog X.w X.K X.mg X.base A X.stack s H := ⟨hA, ee.mod, ee.bs, ee.bsz, ee.funs, ee.frf, ee.hok, ee.bare⟩
  have KX := I0.inv.kIn
  have hkind : ∀ y ∈ ps.zip us, scope.names.lookup y.1 = some .local ∨ (scope.names.lookup y.1 = some .cell ∧ ((cellsFrom (s.heap.objs.size + 1) scope.names []).lookup y.1).isSome = true) := fun ⟨n, v⟩ hy => by
    rcases S.par n (List.of_mem_zip hy).1 with q | q
    · exact .inl q
    · exact .inr ⟨q, PySem.W.cellsFrom_some _ _ _ (.inl q)⟩
  refine md_function hr.depth (KX _ _ lk) rfl S.co S.gen rfl (PySem.W.codeRec_of KX hcd) (hb s rfl _ _ _ _ ?_)
  refine wpAny_newFunctionEnv_cells S.kind hkind fun env he s1 x => ?_
  subst he
  refine ⟨I0.inv.nolimit.keeps x.toInCall.keep, md_func ?_⟩
  have hfr : ∀ b ∈ frs X.stack, b < s.heap.objs.size := fun b hb => by
    obtain ⟨_, o, ho, _⟩ := ee.funs.mem hb
    exact Heap.lt_size ho
  obtain ⟨t, ht, hq⟩ := hbody A X.stack s H vs Q (hr.deeper _) hfr hsp
  have I : Inv (cxMd X.prog X.w X.K X.mg X.base N qual scope f cdv A X.stack s H) [] (start N vs) H s1 := Inv.noxed (inv_start (CX := CX0) (E := E0) S hr.hd e0 hl r x)
  have nst : ∀ p ∈ pins, p.1 ∉ frs X.stack := fun p hp hm => by
    have q := I0.inv.pin p (List.mem_append_right _ hp)
    rcases List.mem_cons.mp (I0.inv.stkSub p.1 hm) with z | z
    · exact q.2.2.1 z
    · exact q.2.2.2.1 z
  have I1 : In1 (cxMd X.prog X.w X.K X.mg X.base N qual scope f cdv A X.stack s H) pins (start N vs) H s1 := by
    refine ⟨I.pins_of fun p hp => ?_, ?_⟩
    · have q := I0.inv.pin p (List.mem_append_right _ hp)
      exact ⟨x.toInCall.keep _ _ q.1, q.2.1, Nat.ne_of_lt (Heap.lt_size q.1), nst p hp, q.2.2.2.2⟩
    · obtain ⟨h1, tk, es1, _⟩ := x.done
      exact fun i k a c p fs cl e => I0.told i k a c p fs cl (by rw [es1] at e; exact e)
  refine wpAny_mono (ht.run pins s1 (start N vs) H _ I1 hq) (fun fl s' hs => ?_) fun _ _ z => z
  have fin : ∀ {p2 : Pl} {σ' : L2.St} {H' : Hp} {v : V} {u : Value}, In1 (cxMd X.prog X.w X.K X.mg X.base N qual scope f cdv A X.stack s H) p2 σ' H' s' → RelV v u → Q v H' → EP1 X pins σ Q u s' :=
    fun {p2 σ' H' v u} J rv q => ep1_after I0 J.inv.os J.inv.bare J.inv.base J.inv.hok rv q (fun p hp => let z := J.inv.pin p (List.mem_append_right _ hp); ⟨z.1, z.2.1, z.2.2.2.1⟩) J.told
  cases fl with
  | ret u =>
    obtain ⟨p2, v, σ', H', _, J, rv, q⟩ := hs
    exact fin J rv q
  | next =>
    obtain ⟨p2, σ', H', _, J, q⟩ := hs
    exact fin (v := V.non) (u := Value.none) J rfl q
  | brk =>
    obtain ⟨_, _, _, _, _, q⟩ := hs
    exact False.elim q
  | cont =>
    obtain ⟨_, _, _, _, _, q⟩ := hs
    exact False.elim q

section
variable {X : Cx} {k : Nat} {f C : Addr} {fd : FuncData} {ps ks : List Str} {sp : Sp} {dvs : List V} {ds : List Value} {x m : Str} {p pos apos : Pos} {e o : Expr} {es : List Expr} {ta : TE} {t tk : TA}
theorem run_md {pins : Pl} {σ : L2.St} {H : Hp} {s : Shared} {Q : VK} {us : List Value} {vs : List V} (F : FnMd X.prog X.w X.K X.mg X.base k f fd ps sp) (hr : Room k X.A) (hb : Binds X.K fd ps ds) (hd : Vals dvs ds)
    (I : In1 X pins σ H s) (r : Vals vs us) (h : sp (vs ++ dvs) H Q E0) : wpAny (Md X.prog X.w) X.A (call (.ref f) us) (EP1 X pins σ Q) no s := by
  have r2 : Vals (vs ++ dvs) (us ++ ds) := r.append hd
  have hl : (us ++ ds).length = ps.length := by rw [← r2.length]; exact F.len _ _ _ _ h
  refine wpAny_call (codeAny_mono (F.run X rfl rfl rfl rfl rfl X.A I.inv.ok.frames hr pins σ H s ⟨us, []⟩ (us ++ ds) (vs ++ dvs) Q I (fun s2 e2 => hb s2 us (by rw [e2]; exact I.inv.kIn) hl) r2 h) fun r s' hq => ?_)
  cases r with
  | error e => exact hq.elim
  | ok fl =>
    cases fl with
    | ret u => exact hq
    | next => exact False.elim hq
    | brk => exact False.elim hq
    | cont => exact False.elim hq
theorem pe_call1 (F : FnMd X.prog X.w X.K X.mg X.base k f fd ps sp) (hr : Room k X.A) (hg : L2.Gl X x) (hm : X.mg x = some (.ref f)) (hk : PySem.W.keepIn X.K (.ref f) = true) (hb : Binds X.K fd ps ds) (hd : Vals dvs ds)
    (ha : PA1 X (e :: es) t) (hdb : (x == ("__debug__" : Str)) = false := by decide) (he : starEach (e :: es) X.env = (false, eval e X.env) :: starEach es X.env := by rfl) (hpl : (backTo pos (starEach es X.env)).any (·.1) = false := by rfl) :
    PE1 X (.Call (.Name x p) (e :: es) [] pos) (tCall sp dvs E0 t) := by
  refine ⟨fun pins s σ H Q I h => ?_⟩
  refine wpAny_Call_Name_kw (ld_glob1 I.inv hg hm ?_ hdb)
  refine PySem.W.callWith_K (h₀ := X.base) I.inv.ok.mod.kin hk (wpAny_mono (ha.run pos pins s σ H _ I h) (fun us s1 ⟨p2, vs, H1, z, I1, r, q⟩ => ⟨I1.inv.kIn, ?_⟩) fun _ _ z => z) he hpl
  exact wpAny_mono (run_md F hr hb hd I1 r q) (fun _ _ w => w.sub z) fun _ _ z => z
theorem getmeth1 {pins : Pl} {σ : L2.St} {H : Hp} {s : Shared} {a dx : Addr} {fs : List (Str × V)} {pl : Sem Bool} {g : Addr} {Q : Value × List Value → Shared → Prop} (I : Inv X pins σ H s) (e : H a = some (.ins C dx fs)) (c : Cls X.K C) (k : Meth X.K C m g) (l : fs.lookup m = none)
    (h : Q (.ref g, [.ref a]) s) : wpAny (Md X.prog X.w) X.A (getMethod (.ref a) m pl) Q no s :=
  wpAny_mono (wpAny_ro (R := fun r => r = (.ref g, [.ref a])) I.bare (getmeth_ok (Inv.lulled I) e c k l ⟨rfl, rfl⟩)) (fun r s' ⟨e1, e2⟩ => by subst e1 e2; exact h) fun _ _ z => z
theorem pe_meth01 {pl : Sem Bool} (he : PE1 X o ta) (c : Cls X.K C) (hm : Meth X.K C m f) (F : FnMd X.prog X.w X.K X.mg X.base k f fd ps sp) (hr : Room k X.A) (hb : Binds X.K fd ps ds) (hd : Vals dvs ds)
    (ht : eval (.Call (.Attribute o m apos) [] [] pos) X.env = (do
      let ov ← eval o X.env
      standAt apos.atName
      let (f, first) ← holding [ov] (getMethod ov m pl)
      callWith pos f first (backTo pos (starEach [] X.env)) (backToKw pos (keywordEach [] X.env))) := by rfl) : PE1 X (.Call (.Attribute o m apos) [] [] pos) (tMeth C m sp dvs E0 ta tNil) := by
  refine ⟨fun pins s σ H Q I h => ?_⟩
  refine PySem.W.methodCall_KW (pl := pl) (wpAny_mono (he.run pins s σ H _ I h) (fun u s1 ⟨p2, x, H1, z, I1, rx, a, dx, fs, ex, ea, l, q⟩ => ?_) fun _ _ z => z) ht
  subst ex
  obtain rfl : u = Value.ref a := rx
  refine getmeth1 I1.inv ea c hm l ?_
  exact PySem.W.callWith_K0 (first := [.ref a]) I1.inv.kIn hm.kp (wpAny_mono (run_md (us := [.ref a]) (vs := [.ref a]) F hr hb hd I1 (.cons rfl .nil) q) (fun _ _ w => w.sub z) fun _ _ z => z)
end
end Gk
namespace PySem.W
open PySem PySem.Calls PyProof.Rows Builtin Builtin.ObjectAttr Builtin.Getset_descriptor Gk
theorem md_call_blt {P : Program} {w : World} {A : Around} {s : Shared} {id : String} {args : Args} {b : Builtin} {R : Result → Shared → Prop} (hq : (Code.builtin id args).quiet = true) (hb : entryFor table id = some b)
    (h : wpAny (Md P w) A.in1 (checkBuiltinCall id args) (fun _ s1 => wpAny (Md P w) (A.under (.builtin id args)) (b args) (fun fin s' => match fin with | .done f => R (.ok f) s' | .again c' => c'.quiet = true ∧ codeAny (Md P w) A c' R s') (fun e s' => R (.error e) s') s1) no s) :
    codeAny (Md P w) A (.call (.builtin id) args) R s := by
  refine md_tree ?_
  show wpAny (Md P w) A.in1 (checkBuiltinCall id args >>= fun _ => again (.builtin id args)) _ _ s
  exact wpAny_bind (wpAny_mono h (fun _ s1 h1 => wpAny_pure ⟨hq, md_builtin hb h1⟩) fun _ _ q => q.elim)
/-- C(..) in the marked machine -/
theorem make_md {P : Program} {w : World} {A : Around} {C : Addr} {R : Result → Shared → Prop} {s : Shared} {rest : List Value} {kw : List (Str × Value)} {f : Addr} {K : Frag} (hbare : AllBare s.gens) (X : K.In s.heap) (hm : makesIn K C = true) (hi : findIn K (.ref C) "__init__" = some (some (.ref f))) (hf : typeIn K (.ref f) = some (.type "function"))
    (hq : ∀ s1 : Shared, s1.heap = (s.heap.push emptyDict).push (instObj C s.heap.objs.size) → s1.os = s.os → (∃ sh : Shared, Zb s.gens s1 sh ∧ AllBare sh.gens) → codeAny (Md P w) (A.under (.builtin "type.__call__" ⟨.ref C :: rest, kw⟩)) (.call (.ref f) ⟨.ref (s.heap.objs.size + 1) :: rest, kw⟩) (InitBack (s.heap.objs.size + 1) R) s1) :
    codeAny (Md P w) A (.call (.ref C) ⟨rest, kw⟩) R s := by
  have Y0 := makes_of (M := model P w) X hm
  have hi0 := looks_findIn (M := model P w) X hi
  have Y := makes_of (M := Md P w) X hm
  have hi1 := looks_findIn (M := Md P w) X hi
  obtain ⟨⟨oc, od, cd, sl, hC, e1, e2, e4⟩, made, base, self, top, call, typ⟩ := Y
  refine md_tree ?_
  show wpAny _ A.in1 (callAny (.ref C) _) _ _ _
  refine nd_load hC ?_
  show wpAny _ _ (callAny.viaDunder (.ref C) _) _ _ _
  unfold callAny.viaDunder
  refine wpAny_bind (call.here ?_)
  dsimp only
  rw [tc_bind]
  refine wpAny_bind (wpAny_pure (wpAny_bind (wpAny_pure ?_)))
  refine wpAny_pure (a := Fin.again (.call (.builtin "type.__call__") ⟨.ref C :: rest, kw⟩)) (And.intro rfl ?_)
  refine md_call_blt (Code.quiet_builtin _ (by decide +kernel)) entry_typeCall (check_slot tc_kind tc_split typ (tc_args _ _ _) ?_)
  unfold Builtin.«type.__call__»
  have hmro : Looks (Md P w) s.heap (mroOf (.ref C)) cd.mro := ((Looks.ld (part := none) hC).andThen .now).andThen .now
  obtain ⟨hh, g, d, t, os⟩ := s
  repeat (first | simp only [e4, Bool.false_eq_true, if_false] | with_reducible refine wpAny_call ?_ | lk)
  have hnew : codeAny (model P w) (A.under (.builtin "type.__call__" ⟨.ref C :: rest, kw⟩)) (.call (.builtin "object.__new__") ⟨.ref C :: rest, kw⟩)
      (fun r sh => r = .ok (.ret (.ref (hh.objs.size + 1))) ∧ sh.heap = (hh.push emptyDict).push (instObj C hh.objs.size) ∧ sh.os = os ∧ AllBare sh.gens) (lulled ⟨hh, g, d, t, os⟩) :=
    new_K Y0 hi0 (.inl rfl) ⟨rfl, rfl, rfl, allBare_lulled hbare⟩
  refine codeAny_mono (codeAny_bb hbare hnew) fun r s1 ⟨_, sh, z, er, eh, eo, eb⟩ => ?_
  subst er
  have eh1 : s1.heap = (hh.push emptyDict).push (instObj C hh.objs.size) := z.heap.trans eh
  have k : ∀ b o, hh.get? b = some o → s1.heap.get? b = some o := fun b o e => by rw [eh1]; exact Heap.get?_push_of_some _ (Heap.get?_push_of_some _ e)
  have hx : s1.heap.get? (hh.objs.size + 1) = some (instObj C hh.objs.size) := by rw [eh1]; heap_get
  have t1 : Looks (Md P w) s1.heap (typeOf (.ref (hh.objs.size + 1))) (.ref C) := (Looks.ld hx).andThen .now
  have s1' := self.keeps k
  have i1 := hi1.keeps k
  have b1 := (bind_fn (M := Md P w) X (.ref (hh.objs.size + 1)) hf).keeps k
  have hq' := hq s1 eh1 (z.os.trans eo) ⟨sh, z, eb⟩
  unfold isInstance callSpecial? specialOf
  repeat (first | with_reducible refine wpAny_call ?_ | lk)
  refine codeAny_mono hq' fun r s' z => ?_
  rcases r with e | (v | _ | _ | _) <;> first | exact z | exact z.elim | skip
  obtain ⟨rfl, z⟩ := z
  exact wpAny_pure (wpAny_pure z)
end PySem.W
/-! What a loop of the marked machine walks: a list, a range, a generator. -/
namespace Gk
open PySem PySem.Spec PyProof.Rows L2
open Sem (wp)

theorem in1_stepH {X : Cx} {pins : Pl} {σ : L2.St} {H : Hp} {s : Shared} {α : Type} {t : Sem α} {A : Around} {R : α → L2.St → Hp → Heap → Prop} (I : In1 X pins σ H s)
    (h : wpAny (model X.prog X.w) A t (fun a sh => ∃ σ' H', Inv X pins σ' H' sh ∧ R a σ' H' sh.heap) no (lulled s)) :
    wpAny (Md X.prog X.w) A t (fun a s' => Asleep s s' ∧ ∃ σ' H', In1 X pins σ' H' s' ∧ R a σ' H' s'.heap) no s :=
  wpAny_mono (wpAny_bb I.inv.bare h) (fun a s' ⟨as, sh, z, σ', H', J, q⟩ => ⟨as, σ', H', I.of_zb' z J, by rw [z.heap]; exact q⟩) fun _ _ ⟨_, _, _, z⟩ => z
theorem in1_pg {X : Cx} {pins : Pl} {σ : L2.St} {H : Hp} {s : Shared} {tg : Expr} {g : TG} {x : V} {u : Value} {Q : L2.St → Hp → Prop} (hx : Nox X) (I : In1 X pins σ H s) (hg : PG X tg g) (rv : RelV x u) (ht : g x σ H Q) :
    wpAny (Md X.prog X.w) X.A (assign tg X.env u) (fun _ s' => Asleep s s' ∧ ∃ σ' H', In1 X pins σ' H' s' ∧ Q σ' H') no s :=
  in1_stepH (R := fun _ σ' H' _ => Q σ' H') I (wpAny_mono (hg.run _ _ σ H x u _ (Inv.lulled I.inv) rv ht) (fun _ sh q => q) fun _ _ z => hx _ _ z)

structure Jt where
  go : Nat → Hp → Prop
  yld : Nat → Hp → V → Hp → Prop
  stop : Nat → Hp → Prop
  ok : Hp → Prop
abbrev CT := Cx → Pl → Nat → L2.St → Hp → Shared → Prop
structure Kin (X X' : Cx) : Prop where
  prog : X'.prog = X.prog
  w : X'.w = X.w
  K : X'.K = X.K
  mg : X'.mg = X.mg
  base : X'.base = X.base
  A : X'.A = X.A
  calm : X'.calm = X.calm
  stack : X'.stack = X.stack
theorem Kin.refl (X : Cx) : Kin X X := ⟨rfl, rfl, rfl, rfl, rfl, rfl, rfl, rfl⟩
/-- what is walked; C0: at its begin, C: at the i-th turn -/
structure Src (X : Cx) (tg : Expr) (J : Jt) (it : Addr) (C0 : Pl → L2.St → Hp → Shared → Prop) (C : CT) : Prop where
  start : ∀ {p σ H s}, C0 p σ H s → C X p 0 σ H s
  begun : ∀ {p σ H s}, C0 p σ H s → Inv X p σ H s
  self : ∀ {p σ H s}, C0 p σ H s → ∀ {s' : Shared}, s'.gens = s.gens → (∀ b o, s.heap.get? b = some o → s'.heap.get? b = some o) → ∀ {A : Around} {Q : Value → Shared → Prop} {E : Value → Shared → Prop}, Q (.ref it) s' → wpAny (Md X.prog X.w) A (pyIter (.ref it)) Q E s'
  grow : ∀ {p σ H s}, C0 p σ H s → ∀ {D : Addr} {ho : HO} {h' : Heap} {t' : Nat}, (∀ b o, s.heap.get? b = some o → h'.get? b = some o) → s.heap.objs.size ≤ D → s.heap.objs.size ≤ h'.objs.size → ObjOk X.prog X.w (upd H D ho) h' D ho → C0 p σ (upd H D ho) { s with heap := h', toks := t' }
  hold : ∀ {X' p i σ H s}, C X' p (i + 1) σ H s → ∃ fp : Pl, In1 X' (fp ++ p) σ H s ∧ ∀ {σ' H' s' p'}, In1 X' p' σ' H' s' → Sub (fp ++ p) p' → Asleep s s' → J.ok H' → ∃ p2, Sub p p2 ∧ C X' p2 (i + 1) σ' H' s'
  next : ∀ {X' p i σ H s}, Kin X X' → C X' p i σ H s → J.go i H → wpAny (Md X.prog X.w) X.A (pyNext (.ref it)) (fun r s1 => ∃ u, r = some u ∧ wpAny (Md X.prog X.w) X.A (letOwnedTupleGo tg (.ref it) u) (fun _ s2 => ∃ x H', C X' p (i + 1) σ H' s2 ∧ RelV x u ∧ J.yld i H x H') no s1) no s
  done : ∀ {X' p i σ H s}, Kin X X' → C X' p i σ H s → J.stop i H → wpAny (Md X.prog X.w) X.A (pyNext (.ref it)) (fun r s1 => r = none ∧ ∃ p2 H', Sub p p2 ∧ In1 X' p2 σ H' s1 ∧ Ext H H') no s
  blk : ∀ {p σ H s}, C0 p σ H s → ∃ ex : List Addr, (∀ b ∈ ex, (b ∈ X.ex ∨ X.s_0.heap.objs.size ≤ b) ∧ b ≠ X.env.locals ∧ (∀ x c, X.env.cells.lookup x = some c → c ≠ b) ∧ (∀ q ∈ X.pn ++ p, q.1 ≠ b) ∧ b < s.heap.objs.size) ∧
    ∀ {scope : Scope} {ce : Env} {σb : L2.St} {s4 : Shared}, Inv (X.blk s H scope ce ex) [] σb H s4 → (∀ b o, s.heap.get? b = some o → s4.heap.get? b = some o) → s4.gens = s.gens → s.heap.objs.size ≤ ce.locals → (∀ x c, ce.cells.lookup x = some c → X.env.cells.lookup x = some c) → C (X.blk s H scope ce ex) p 0 σb H s4

/-! ### a record of our own that is no generator's -/
section
variable {X : Cx} {p p' : Pl} {σ σ' : L2.St} {H H' : Hp} {s s' : Shared} {it : Addr} {o : Obj}
theorem in1_put (I : In1 X p σ H s) (hf : FpOk X p H it) (ho : s.heap.get? it = some o) (hd : ∀ v, o.data ≠ .cell v) : In1 X ((it, o) :: p) σ H s :=
  ⟨I.inv.pins_of fun q hq => by
    rcases List.mem_cons.mp hq with rfl | hq
    · exact ⟨ho, hf.1, hf.2.1, hf.2.2.1, hd⟩
    · exact I.inv.pin q (List.mem_append_right _ hq), Told.mono I.told (TP.mono fun q hq => List.mem_cons_of_mem _ hq)⟩
theorem in1_cut (I : In1 X p' σ' H' s') (hm : (it, o) ∈ p') (hg : isG o = false) : In1 X (p'.filter fun q => decide (q.1 ≠ it)) σ' H' s' := by
  refine ⟨I.inv.pins_of fun q hq => I.inv.pin q (List.mem_append_right _ (List.mem_filter.mp hq).1), fun n k a c pp fs cl e => ?_⟩
  obtain ⟨o2, h2, g2⟩ := I.told n k a c pp fs cl e
  refine ⟨o2, List.mem_filter.mpr ⟨h2, decide_eq_true fun z => ?_⟩, g2⟩
  have z' : a = it := z
  subst z'
  have q1 := (I.inv.pin _ (List.mem_append_right _ hm)).1
  have q2 := (I.inv.pin _ (List.mem_append_right _ h2)).1
  have e2 : some o2 = some o := q2.symm.trans q1
  cases e2
  rw [hg] at g2; cases g2
/-- an iterator that is one record; tn: where it stands -/
def CtA (it : Addr) (tn : Nat → Heap → Prop) : CT := fun X' p i σ H s => In1 X' p σ H s ∧ tn i s.heap ∧ FpOk X' p H it
def Ct0 (X : Cx) (it : Addr) (tn : Nat → Heap → Prop) : Pl → L2.St → Hp → Shared → Prop := fun p σ H s => In1 X p σ H s ∧ tn 0 s.heap ∧ FpOk X p H it ∧ it < s.heap.objs.size
structure OneRec (X : Cx) (tg : Expr) (J : It) (it : Addr) (tn : Nat → Heap → Prop) : Prop where
  obj : ∀ i h, tn i h → ∃ o, h.get? it = some o ∧ (∀ v, o.data ≠ .cell v) ∧ isG o = false ∧ ∀ h' : Heap, h'.get? it = some o → tn i h'
  self : ∀ {A : Around} {s : Shared} {Q : Value → Shared → Prop} {E : Value → Shared → Prop}, tn 0 s.heap → Q (.ref it) s → wpAny (Md X.prog X.w) A (pyIter (.ref it)) Q E s
  item : ∀ {X' : Cx} {p i σ H s}, Kin X X' → Inv X' p σ H s → FpOk X' p H it → tn i s.heap → J.go i H → wpAny (model X.prog X.w) X.A (pyNext (.ref it)) (fun r s1 => ∃ σ' H', Inv X' p σ' H' s1 ∧ ∃ u x, r = some u ∧ RelV x u ∧ J.yld i H x H' ∧ σ' = σ ∧ tn (i + 1) s1.heap ∧ H' it = none) no s
  go : ∀ {A : Around} {s : Shared} {i : Nat} {u : Value} {Q : Unit → Shared → Prop} {E : Value → Shared → Prop}, tn i s.heap → Q () s → wpAny (Md X.prog X.w) A (letOwnedTupleGo tg (.ref it) u) Q E s
  fin : ∀ {X' : Cx} {p i σ H s}, Kin X X' → Inv X' p σ H s → FpOk X' p H it → tn i s.heap → J.stop i H → wpAny (model X.prog X.w) X.A (pyNext (.ref it)) (fun r s1 => r = none ∧ Inv X' p σ H s1) no s
theorem src_one {tg : Expr} {J : It} {tn : Nat → Heap → Prop} (T : OneRec X tg J it tn) : Src X tg ⟨J.go, J.yld, J.stop, fun _ => True⟩ it (Ct0 X it tn) (CtA it tn) where
  start := fun c => ⟨c.1, c.2.1, c.2.2.1⟩
  begun := fun c => c.1.inv
  self := fun {p σ H s} c {s'} eg k {A Q E} hq => by
    obtain ⟨o, ho, _, _, kp⟩ := T.obj _ _ c.2.1
    exact T.self (kp _ (k _ _ ho)) hq
  grow := fun {p σ H s} c {D ho h' t'} k hD hsz new => by
    obtain ⟨I, st, f, lt⟩ := c
    obtain ⟨o, eo, _, _, kp⟩ := T.obj _ _ st
    refine ⟨⟨I.inv.laid (t' := t') k hD new, fun i kk a c p fs cl e => I.told i kk a c p fs cl e⟩, kp _ (k _ _ eo), ⟨?_, f.2⟩, Nat.lt_of_lt_of_le lt hsz⟩
    rw [upd_ne (Nat.ne_of_lt (Nat.lt_of_lt_of_le lt hD))]
    exact f.1
  hold := fun {X' p i σ H s} c => by
    obtain ⟨I, st, f⟩ := c
    obtain ⟨o, eo, hd, hg, kp⟩ := T.obj _ _ st
    refine ⟨[(it, o)], in1_put I f eo hd, fun {σ' H' s' p'} I' hs _ _ => ?_⟩
    have hm : (it, o) ∈ p' := hs _ (by simp)
    have pq := I'.inv.pin _ (List.mem_append_right _ hm)
    refine ⟨p'.filter fun q => decide (q.1 ≠ it), fun q hq => List.mem_filter.mpr ⟨hs q (by simp [hq]), decide_eq_true (f.2.2.2.2.2 q (List.mem_append_right _ hq))⟩, in1_cut I' hm hg, kp _ pq.1, pq.2.1, f.2.1, f.2.2.1, f.2.2.2.1, f.2.2.2.2.1, fun q hq => ?_⟩
    rcases List.mem_append.mp hq with hq | hq
    · exact f.2.2.2.2.2 q (List.mem_append_left _ hq)
    · exact of_decide_eq_true (List.mem_filter.mp hq).2
  next := fun {X' p i σ H s} kn c hgo => by
    obtain ⟨I, st, f⟩ := c
    have I' : In1 X' p σ H s := I
    have hrun := T.item kn (Inv.lulled I'.inv) f st hgo
    have hstep : wpAny (Md X'.prog X'.w) X.A (pyNext (.ref it)) _ no s := in1_stepH (A := X.A) (R := fun r σ' H' h' => ∃ u x, r = some u ∧ RelV x u ∧ J.yld i H x H' ∧ σ' = σ ∧ tn (i + 1) h' ∧ H' it = none) I' (by rw [kn.prog, kn.w]; exact hrun)
    rw [kn.prog, kn.w] at hstep
    refine wpAny_mono hstep (fun r s1 ⟨_, σ', H', J1, u, x, er, rx, y, es, st1, hn⟩ => ⟨u, er, T.go st1 ⟨x, H', ⟨by subst es; exact J1, st1, hn, f.2⟩, rx, y⟩⟩) fun _ _ z => z
  done := fun {X' p i σ H s} kn c hst => by
    obtain ⟨I, st, f⟩ := c
    have hstep : wpAny (Md X'.prog X'.w) X.A (pyNext (.ref it)) _ no s := in1_stepH (A := X.A) (R := fun r σ' H' _ => r = none ∧ σ' = σ ∧ H' = H) I (by rw [kn.prog, kn.w]; exact wpAny_mono (T.fin kn (Inv.lulled I.inv) f st hst) (fun r sh ⟨e, J1⟩ => ⟨σ, H, J1, e, rfl, rfl⟩) fun _ _ z => z)
    rw [kn.prog, kn.w] at hstep
    refine wpAny_mono hstep (fun r s1 ⟨_, σ', H', J1, e, e1, e2⟩ => ⟨e, p, H', .refl _, by subst e1; exact J1, by subst e2; exact .refl _⟩) fun _ _ z => z
  blk := fun {p σ H s} c => by
    obtain ⟨I, st, f, lt⟩ := c
    obtain ⟨o, eo, hd, hg, kp⟩ := T.obj _ _ st
    refine ⟨[it], fun b hb => ?_, fun {scope ce σb s4} Ib k eg hL hcl => ?_⟩
    · have e : b = it := by simpa using hb
      subst e
      exact ⟨f.2.2.2.1, f.2.1, f.2.2.2.2.1, f.2.2.2.2.2, lt⟩
    · refine ⟨⟨Ib.pins_of fun q hq => ?_, fun i kk a c p fs cl e => I.told i kk a c p fs cl (by rw [eg] at e; exact e)⟩, kp _ (k _ _ eo), f.1, ?_, ?_, .inl (by simp), fun x c e => ?_, fun q hq => f.2.2.2.2.2 q (List.mem_append_right _ hq)⟩
      · have z := I.inv.pin q (List.mem_append_right _ hq)
        refine ⟨k _ _ z.1, z.2.1, Nat.ne_of_lt (Nat.lt_of_lt_of_le (Heap.lt_size z.1) hL), fun hm => ?_, z.2.2.2.2⟩
        rcases List.mem_cons.mp (I.inv.stkSub q.1 hm) with w | w
        · exact z.2.2.1 w
        · exact z.2.2.2.1 w
      · exact Nat.ne_of_lt (Nat.lt_of_lt_of_le lt hL)
      · intro hm
        rcases List.mem_cons.mp (I.inv.stkSub it hm) with w | w
        · exact f.2.1 w
        · exact f.2.2.1 w
      · exact f.2.2.2.2.1 x c (hcl x c e)
end
end Gk
namespace Gk
open PySem PySem.Spec PyProof.Rows L2
open Sem (wp)

/-- the next item of a generator by pyNext -/
theorem pyNext_item {M : Model} {A : Around} {it : Value} {s : Shared} {Q : Option Value → Shared → Prop} {E : Value → Shared → Prop} (h : wpAny M A (callSpecial? it "__next__") (fun r s' => ∃ u, r = some u ∧ Q (some u) s') no s) : wpAny M A (pyNext it) Q E s := by
  unfold pyNext
  refine wpAny_bind (wpAny_attempt (wpAny_mono h (fun r s' ⟨u, e, q⟩ => ?_) fun _ _ z => z.elim))
  subst e
  exact wpAny_pure q
theorem pyNext_stop {M : Model} {A : Around} {it : Value} {s : Shared} {Q : Option Value → Shared → Prop} {E : Value → Shared → Prop} (h : wpAny M A (callSpecial? it "__next__") (fun _ _ => False) (fun e s' => StopX e s'.heap ∧ Q none s') s) : wpAny M A (pyNext it) Q E s := by
  unfold pyNext
  refine wpAny_bind (wpAny_attempt (wpAny_mono h (fun _ _ z => z.elim) fun e s' ⟨⟨a, o, vs, ee, ho, hc, _⟩, q⟩ => ?_))
  subst ee
  refine wpAny_bind (wpAny_isInstance (T := "StopIteration") (b := true) ⟨o, ho, hc⟩ isSubtype_stop ?_)
  exact wpAny_pure q

/-- a generator that is walked: items0, all that it hands out -/
def Jg (items : List Item) (T : Hp → Prop) : Jt := ⟨fun i _ => i < items.length, fun i H v H' => Ext H H' ∧ ∃ x, items[i]? = some x ∧ x v H', fun i _ => i = items.length, T⟩
structure CtB (P : Program) (w : World) (K : PySem.W.Frag) (mg : Str → Option Value) (base : Heap) (k : Nat) (T : Hp → Prop) (it g lo : Nat) (items : List Item) (X' : Cx) (p : Pl) (i : Nat) (σ : L2.St) (H : Hp) (s : Shared) : Prop where
  host : Host P w K mg base k lo X'
  ex : ∃ fp gp o, In1 X' (fp ++ (it, o) :: p) σ H s ∧ (∀ q ∈ fp, FpOk X' ((it, o) :: p) H q.1) ∧ FpOk X' p H it ∧ GOk gp s ∧ (1 ≤ i → Sus gp) ∧ Gen0 o g ∧ T H ∧ Gd P w K mg base k T it g lo (items.drop i) fp gp
def Ct0B (X : Cx) (P : Program) (w : World) (K : PySem.W.Frag) (mg : Str → Option Value) (base : Heap) (k : Nat) (T : Hp → Prop) (it g lo : Nat) (items : List Item) : Pl → L2.St → Hp → Shared → Prop := fun p σ H s =>
  CtB P w K mg base k T it g lo items X p 0 σ H s ∧ In1 X p σ H s ∧ (∀ q ∈ X.pn ++ p, q.1 < lo) ∧ X.env.locals < lo ∧ lo ≤ s.heap.objs.size ∧ lo ≤ it
theorem drop_at {α : Type} {l : List α} {i : Nat} (h : i < l.length) : ∃ x, l[i]? = some x ∧ l.drop i = x :: l.drop (i + 1) := ⟨l[i], List.getElem?_eq_getElem h, (List.drop_eq_getElem_cons h)⟩
section
variable {P : Program} {w : World} {K : PySem.W.Frag} {mg : Str → Option Value} {base : Heap} {k : Nat} {T : Hp → Prop} {it g lo : Nat} {items : List Item} {X : Cx}
theorem ctb_next {tg : Expr} {X' : Cx} {p : Pl} {i : Nat} {σ : L2.St} {H : Hp} {s : Shared} (tm : ∀ H H', Ext H H' → T H → T H') (c : CtB P w K mg base k T it g lo items X' p i σ H s) (hi : i < items.length) :
    wpAny (Md P w) X'.A (pyNext (.ref it)) (fun r s1 => ∃ u, r = some u ∧ wpAny (Md P w) X'.A (letOwnedTupleGo tg (.ref it) u) (fun _ s2 => ∃ x H', CtB P w K mg base k T it g lo items X' p (i + 1) σ H' s2 ∧ RelV x u ∧ (Ext H H' ∧ ∃ y, items[i]? = some y ∧ y x H')) no s1) no s := by
  obtain ⟨host, fp, gp, o, I, hf, hit, hg, _, h0, ht, gd⟩ := c
  obtain ⟨y, ey, ed⟩ := drop_at hi
  rw [ed] at gd
  have pre : Pre X' lo T it g fp gp ((it, o) :: p) σ H s := ⟨I, hf, hg, ⟨o, (I.inv.pin (it, o) (List.mem_append_right _ (List.mem_append_right _ List.mem_cons_self))).1, h0⟩, ht⟩
  refine pyNext_item (gd.2.2 X' host _ σ H s _ no pre fun u v fp' gp' H' s' rv hx po g' su gd' => ⟨u, rfl, u, rfl, ?_⟩)
  have q := po.inv.inv.pin (it, o) (List.mem_append_right _ (List.mem_append_right _ List.mem_cons_self))
  obtain ⟨nm, qn, hd⟩ := h0.data
  refine go_of q.1 h0.cls hd (by decide) ⟨v, H', ⟨host, fp', gp', o, po.inv, po.fpok, ⟨q.2.1, hit.2⟩, g', fun _ => su, h0, tm _ _ po.ext ht, gd'⟩, rv, po.ext, y, ey, hx⟩
theorem ctb_done {X' : Cx} {p : Pl} {i : Nat} {σ : L2.St} {H : Hp} {s : Shared} (c : CtB P w K mg base k T it g lo items X' p i σ H s) (hi : i = items.length) :
    wpAny (Md P w) X'.A (pyNext (.ref it)) (fun r s1 => r = none ∧ ∃ p2 H', Sub p p2 ∧ In1 X' p2 σ H' s1 ∧ Ext H H') no s := by
  obtain ⟨host, fp, gp, o, I, hf, hit, hg, _, h0, ht, gd⟩ := c
  subst hi
  rw [List.drop_length] at gd
  have pre : Pre X' lo T it g fp gp ((it, o) :: p) σ H s := ⟨I, hf, hg, ⟨o, (I.inv.pin (it, o) (List.mem_append_right _ (List.mem_append_right _ List.mem_cons_self))).1, h0⟩, ht⟩
  exact pyNext_stop (gd.2.2 X' host _ σ H s _ _ pre fun e fp' H' s' hS po => ⟨hS, rfl, _, H', fun q hq => List.mem_append_right _ (List.mem_cons_of_mem _ hq), po.inv, po.ext⟩)
theorem kin_host {X' : Cx} (kn : Kin X X') (h : Host P w K mg base k lo X') : X.prog = P ∧ X.w = w := ⟨kn.prog.symm.trans h.prog, kn.w.symm.trans h.w⟩
theorem src_gen {tg : Expr} (tm : ∀ H H', Ext H H' → T H → T H') (hP : X.prog = P) (hw : X.w = w) : Src X tg (Jg items T) it (Ct0B X P w K mg base k T it g lo items) (CtB P w K mg base k T it g lo items) where
  start := fun c => c.1
  begun := fun c => c.2.1.inv
  self := fun {p σ H s} c {s'} eg kk {A Q E} hq => by
    obtain ⟨⟨host, fp, gp, o, I, hf, hit, hg, _, h0, ht, gd⟩, _⟩ := c
    exact md_iter_gen (kk _ _ (I.inv.pin (it, o) (List.mem_append_right _ (List.mem_append_right _ List.mem_cons_self))).1) h0 hq
  grow := fun {p σ H s} c {D ho h' t'} kk hD hsz new => by
    obtain ⟨⟨host, fp, gp, o, I, hf, hit, hg, hs, h0, ht, gd⟩, I0, h1, h2, h3, lit⟩ := c
    have hDn : H D = none := I.inv.hok.fresh hD
    have old : ∀ {b : Addr} {ob : Obj}, s.heap.get? b = some ob → (upd H D ho) b = H b := fun {b ob} e => upd_ne (Nat.ne_of_lt (Nat.lt_of_lt_of_le (Heap.lt_size e) hD))
    have pit := (I.inv.pin (it, o) (List.mem_append_right _ (List.mem_append_right _ List.mem_cons_self)))
    refine ⟨⟨host, fp, gp, o, ⟨I.inv.laid (t' := t') kk hD new, fun i k a c p fs cl e => I.told i k a c p fs cl e⟩, fun q hq => ?_, ⟨by rw [old pit.1]; exact hit.1, hit.2⟩, hg, hs, h0, tm _ _ (Ext.upd hDn) ht, gd⟩, ⟨I0.inv.laid (t' := t') kk hD new, fun i k a c p fs cl e => I0.told i k a c p fs cl e⟩, h1, h2, Nat.le_trans h3 hsz, lit⟩
    have pq := (I.inv.pin q (List.mem_append_right _ (List.mem_append_left _ hq)))
    exact ⟨by rw [old pq.1]; exact (hf q hq).1, (hf q hq).2⟩
  hold := fun {X' p i σ H s} c => by
    obtain ⟨host, fp, gp, o, I, hf, hit, hg, hs, h0, ht, gd⟩ := c
    refine ⟨fp ++ [(it, o)], by rw [List.append_assoc]; exact I, fun {σ' H' s' p'} I' hsub as ok => ?_⟩
    have hsub' : ∀ q ∈ fp ++ (it, o) :: p, q ∈ p' := fun q hq => hsub q (by rw [List.append_assoc]; exact hq)
    classical
    let p2 := p'.filter fun q => decide (q.1 ≠ it ∧ ∀ z ∈ fp, z.1 ≠ q.1)
    have hp2 : ∀ q, q ∈ p2 ↔ q ∈ p' ∧ q.1 ≠ it ∧ ∀ z ∈ fp, z.1 ≠ q.1 := fun q => by
      constructor
      · intro z
        obtain ⟨z1, z2⟩ := List.mem_filter.mp z
        exact ⟨z1, of_decide_eq_true z2⟩
      · rintro ⟨z1, z2⟩
        exact List.mem_filter.mpr ⟨z1, decide_eq_true z2⟩
    have pin' : ∀ q ∈ fp ++ (it, o) :: p, s'.heap.get? q.1 = some q.2 ∧ H' q.1 = none := fun q hq =>
      let z := I'.inv.pin q (List.mem_append_right _ (hsub' q hq)); ⟨z.1, z.2.1⟩
    have all : ∀ q ∈ fp ++ (it, o) :: p2, q ∈ p' := fun q hq => by
      rcases List.mem_append.mp hq with hq | hq
      · exact hsub' q (List.mem_append_left _ hq)
      · rcases List.mem_cons.mp hq with rfl | hq
        · exact hsub' _ (List.mem_append_right _ List.mem_cons_self)
        · exact ((hp2 q).mp hq).1
    refine ⟨p2, fun q hq => (hp2 q).mpr ⟨hsub' q (List.mem_append_right _ (List.mem_cons_of_mem _ hq)), hit.2.2.2.2.2 q (List.mem_append_right _ hq), fun z hz => Ne.symm ((hf z hz).2.2.2.2.2 q (List.mem_append_right _ (List.mem_cons_of_mem _ hq)))⟩,
      host, fp, gp, o, ⟨I'.inv.pins_of fun q hq => I'.inv.pin q (List.mem_append_right _ (all q hq)), fun n kk a c pp fs cl e => ?_⟩, fun q hq => ?_, ?_, fun q hq => ?_, fun _ => hs (Nat.succ_le_succ (Nat.zero_le _)), h0, ok, gd⟩
    · obtain ⟨o2, h2, g2⟩ := I'.told n kk a c pp fs cl e
      refine ⟨o2, ?_, g2⟩
      have e2 := (I'.inv.pin _ (List.mem_append_right _ h2)).1
      by_cases z1 : a = it
      · subst z1
        have e3 : some o2 = some o := e2.symm.trans (pin' (a, o) (List.mem_append_right _ List.mem_cons_self)).1
        cases e3
        exact List.mem_append_right _ List.mem_cons_self
      · by_cases z2 : ∃ q ∈ fp, q.1 = a
        · obtain ⟨⟨qa, qo⟩, hq, eq⟩ := z2
          have eq' : qa = a := eq
          subst eq'
          have e3 : some o2 = some qo := e2.symm.trans (pin' (qa, qo) (List.mem_append_left _ hq)).1
          cases e3
          exact List.mem_append_left _ hq
        · exact List.mem_append_right _ (List.mem_cons_of_mem _ ((hp2 _).mpr ⟨h2, z1, fun q hq eq => z2 ⟨q, hq, eq⟩⟩))
    · have f := hf q hq
      refine ⟨(pin' q (List.mem_append_left _ hq)).2, f.2.1, f.2.2.1, f.2.2.2.1, f.2.2.2.2.1, fun z hz => ?_⟩
      rcases List.mem_append.mp hz with hz | hz
      · exact f.2.2.2.2.2 z (List.mem_append_left _ hz)
      · rcases List.mem_cons.mp hz with rfl | hz
        · exact f.2.2.2.2.2 _ (List.mem_append_right _ List.mem_cons_self)
        · exact Ne.symm (((hp2 z).mp hz).2.2 q hq)
    · refine ⟨(pin' (it, o) (List.mem_append_right _ List.mem_cons_self)).2, hit.2.1, hit.2.2.1, hit.2.2.2.1, hit.2.2.2.2.1, fun z hz => ?_⟩
      rcases List.mem_append.mp hz with hz | hz
      · exact hit.2.2.2.2.2 z (List.mem_append_left _ hz)
      · exact ((hp2 z).mp hz).2.1
    · obtain ⟨k2, l2, c2, q2, f2, cl2, e2⟩ := hs (Nat.succ_le_succ (Nat.zero_le _)) q hq
      rw [e2]
      exact as q.1 k2 l2 c2 q2 f2 cl2 (by rw [← e2]; exact hg q hq)
  next := fun {X' p i σ H s} kn c hgo => by
    have q := ctb_next (tg := tg) tm c hgo
    rw [kn.A] at q
    rw [hP, hw]
    exact q
  done := fun {X' p i σ H s} kn c hst => by
    have q := ctb_done c hst
    rw [kn.A] at q
    rw [hP, hw]
    exact q
  blk := fun {p σ H s} c => by
    obtain ⟨⟨host, fp, gp, o, I, hf, hit, hg, hs, h0, ht, gd⟩, I0, h1, h2, h3, lit⟩ := c
    refine ⟨List.range' lo (s.heap.objs.size - lo), fun b hb => ?_, fun {scope ce σb s4} Ib kk eg hL hcl => ?_⟩
    · obtain ⟨hb1, hb2⟩ : lo ≤ b ∧ b < s.heap.objs.size := by
        obtain ⟨z1, z2⟩ := List.mem_range'_1.mp hb
        refine ⟨z1, Nat.lt_of_lt_of_le z2 (Nat.le_of_eq ?_)⟩
        exact Nat.add_sub_cancel' h3
      exact ⟨host.wide b hb1, fun z => absurd h2 (by rw [← z]; exact Nat.not_lt.mpr hb1), fun x c e z => absurd (host.cells x c e) (by rw [z]; exact Nat.not_lt.mpr hb1), fun q hq z => absurd (h1 q hq) (by rw [z]; exact Nat.not_lt.mpr hb1), hb2⟩
    · have inr : ∀ b, lo ≤ b → b < s.heap.objs.size → b ∈ List.range' lo (s.heap.objs.size - lo) := fun b hb1 hb2 => by
        refine List.mem_range'_1.mpr ⟨hb1, Nat.lt_of_lt_of_le hb2 (Nat.le_of_eq ?_)⟩
        exact (Nat.add_sub_cancel' h3).symm
      have stk : ∀ b ∈ frs X.stack, b < lo := host.frs
      have wide : ∀ b, lo ≤ b → b ∈ List.range' lo (s.heap.objs.size - lo) ∨ s.heap.objs.size ≤ b := fun b hb => (Nat.lt_or_ge b s.heap.objs.size).imp (inr b hb) fun z => z
      have lof := gd_lo gd
      have pall : ∀ q ∈ fp ++ (it, o) :: p, s.heap.get? q.1 = some q.2 ∧ H q.1 = none ∧ q.1 ∉ frs X.stack ∧ ∀ v, q.2.data ≠ .cell v := fun q hq => by
        have z := I.inv.pin q (List.mem_append_right _ hq)
        refine ⟨z.1, z.2.1, fun hm => ?_, z.2.2.2.2⟩
        rcases List.mem_cons.mp (I.inv.stkSub q.1 hm) with w | w
        · exact z.2.2.1 w
        · exact z.2.2.2.1 w
      have fresh : ∀ q ∈ fp ++ (it, o) :: p, q.1 ≠ ce.locals := fun q hq => Nat.ne_of_lt (Nat.lt_of_lt_of_le (Heap.lt_size (pall q hq).1) hL)
      have cel : ∀ q ∈ fp ++ [(it, o)], ∀ x c, ce.cells.lookup x = some c → c ≠ q.1 := fun q hq x c e z => by
        have hq' : q ∈ fp ++ (it, o) :: p := by
          rcases List.mem_append.mp hq with hq | hq
          · exact List.mem_append_left _ hq
          · exact List.mem_append_right _ (by rw [List.mem_singleton.mp hq]; exact List.mem_cons_self)
        have h := hcl x c e
        rcases List.mem_append.mp hq with hq | hq
        · exact (hf q hq).2.2.2.2.1 x c h z
        · rw [List.mem_singleton.mp hq] at z
          exact hit.2.2.2.2.1 x c h z
      refine ⟨⟨host.prog, host.w, host.K, host.mg, host.base, host.calm, host.room, stk, wide, fun x c e => ?_⟩, fp, gp, o, ⟨Ib.pins_of fun q hq => ⟨kk _ _ (pall q hq).1, (pall q hq).2.1, fresh q hq, (pall q hq).2.2.1, (pall q hq).2.2.2⟩, fun i k a c p fs cl e => I.told i k a c p fs cl (by rw [eg] at e; exact e)⟩, fun q hq => ?_, ?_, fun q hq => by rw [eg]; exact hg q hq, hs, h0, ht, gd⟩
      · exact host.cells x c (hcl x c e)
      · refine ⟨(hf q hq).1, fresh q (List.mem_append_left _ hq), (pall q (List.mem_append_left _ hq)).2.2.1, .inl (inr _ (lof q hq) (Heap.lt_size (pall q (List.mem_append_left _ hq)).1)), cel q (List.mem_append_left _ hq), fun z hz => (hf q hq).2.2.2.2.2 z (List.mem_append_right _ hz)⟩
      · refine ⟨hit.1, fresh (it, o) (List.mem_append_right _ List.mem_cons_self), (pall (it, o) (List.mem_append_right _ List.mem_cons_self)).2.2.1, .inl (inr _ lit (Heap.lt_size (pall (it, o) (List.mem_append_right _ List.mem_cons_self)).1)), cel (it, o) (List.mem_append_right _ (by simp)), fun z hz => hit.2.2.2.2.2 z (List.mem_append_right _ hz)⟩
end
end Gk
/-! for over a list, a range, a generator, in the marked machine. -/
namespace Gk
open PySem PySem.Spec PyProof.Rows L2
open Sem (wp)

theorem one_list {X : Cx} {tg : Expr} (hc : X.calm = true) (a it : Addr) : OneRec X tg (Itl X.K a) it (fun i h => h.IsListIter it a i) where
  obj := fun i h st => by
    obtain ⟨o, e, c, d⟩ := st
    refine ⟨o, e, (fun v z => by rw [d] at z; cases z), ?_, fun h' e' => ⟨o, e', c, d⟩⟩
    unfold isG Obj.genNumber?
    rw [c, d]; rfl
  self := fun {A s Q E} st hq => by
    refine wpAny_pyIter_slot st.typeIs slot_listiter_iter (md_callSlot slot_listiter_iter st.typeIs entry_listiter_iter ?_ (args_listiter_iter _))
    show wpAny _ _ (ret (.ref it)) _ _ s
    exact wpAny_pure ⟨_, rfl, "list_iterator", _, st.typeIs, slot_listiter_next.lookup, hq⟩
  item := fun {X' p i σ H s} kn I f st hg => by
    obtain ⟨xs, x, hq, hx⟩ := hg
    rw [← kn.K] at hq
    obtain ⟨its, rv, pp, hz⟩ := I.list hq
    obtain ⟨u, hu, ru⟩ := rv.get hx
    obtain ⟨f0, f1, f2, f3, f4, f5⟩ := f
    refine wpAny_pyNext_list_item st pp.isList (x := u) (by simpa using hu) fun h' st' sb => ?_
    exact ⟨σ, H, I.turned (t' := s.toks) (fun b o hb e => (sb.2 b hb).trans e) f0 f1 f3 f4 f5, u, x, rfl, ru, ⟨rfl, fun ys hy => by rw [← kn.K] at hy; rw [I.list_inj hy hq]; exact hx⟩, rfl, st', f0⟩
  go := fun {A s i u Q E} st hq => by
    obtain ⟨o, e, c, d⟩ := st
    exact go_of e c d (by decide) hq
  fin := fun {X' p i σ H s} kn I f st hg => by
    obtain ⟨xs, hq, hx⟩ := hg
    rw [← kn.K] at hq
    obtain ⟨its, rv, pp, hz⟩ := I.list hq
    obtain ⟨f0, f1, f2, f3, f4, f5⟩ := f
    have hl := rv.length
    have hh : X.A.handled = none := by rw [← kn.A]; exact I.ok.hd (kn.calm.trans hc)
    exact wpAny_pyNext_list_end hh st pp.isList (by simp; omega) fun h' eb => ⟨rfl, I.turned (t' := s.toks) (fun b o hb e => eb b o hb e) f0 f1 f3 f4 f5⟩
theorem one_range {X : Cx} {tg : Expr} (hc : X.calm = true) (it : Addr) (lo : Int) (n : Nat) : OneRec X tg (Itr lo n) it (fun i h => IsRangeIter h it (lo + (i : Nat) * 1) ((n : Int) - (i : Nat)) 1) where
  obj := fun i h st => ⟨_, st, (fun v z => by cases z), rfl, fun h' e' => e'⟩
  self := fun {A s Q E} st hq => by
    have hT : s.TypeIs (.ref it) "range_iterator" := ⟨_, st, rfl⟩
    refine wpAny_pyIter_slot hT F.slot_range_iterator_iter (md_callSlot F.slot_range_iterator_iter hT F.entry_range_iterator_iter ?_ (F.args_range_iterator_iter_1 _))
    show wpAny _ _ (ret (.ref it)) _ _ s
    exact wpAny_pure ⟨_, rfl, "range_iterator", _, hT, F.slot_range_iterator_next.lookup, hq⟩
  item := fun {X' p i σ H s} kn I f st hg => by
    obtain ⟨f0, f1, f2, f3, f4, f5⟩ := f
    have hh : X.A.handled = none := by rw [← kn.A]; exact I.ok.hd (kn.calm.trans hc)
    have W := Walks.range (prog := X.prog) (w := X.w) hh it lo 1 n
    refine W.item i s _ _ hg st fun v h' tk hv st' kk => ?_
    obtain ⟨t, rfl⟩ := hv
    refine ⟨σ, H, I.turned (fun b o hb e => kk b o (by simpa using hb) e) f0 f1 f3 f4 f5, _, .int (lo + i), rfl, ⟨t, ?_⟩, ⟨rfl, rfl⟩, rfl, st', f0⟩
    rw [Int.mul_one]
  go := fun {A s i u Q E} st hq => go_of (n := "range_iterator") st rfl rfl (by decide) hq
  fin := fun {X' p i σ H s} kn I f st hg => by
    obtain ⟨f0, f1, f2, f3, f4, f5⟩ := f
    have hh : X.A.handled = none := by rw [← kn.A]; exact I.ok.hd (kn.calm.trans hc)
    exact wpAny_pyNext_range_end hh st (by have : n ≤ i := hg; omega) fun h' eb => ⟨rfl, I.turned (t' := s.toks) (fun b o hb e => eb b o hb e) f0 f1 f3 f4 f5⟩

abbrev TI1 := L2.St → Hp → (Jt → Hp → Prop) → Prop
structure PI1 (X : Cx) (tg iter : Expr) (wi : TI1) : Prop where
  run : ∀ (pins : Pl) (s : Shared) (σ : L2.St) (H : Hp) (R : Jt → Hp → Prop), In1 X pins σ H s → wi σ H R → wpAny (Md X.prog X.w) X.A (eval iter X.env) (fun v s1 => wpAny (Md X.prog X.w) X.A (pyIter v) (fun itv s2 =>
    ∃ it J p2 H2 C0 C, itv = .ref it ∧ Sub pins p2 ∧ Src X tg J it C0 C ∧ C0 p2 σ H2 s2 ∧ In1 X p2 σ H2 s2 ∧ R J H2) no s1) no s
abbrev jt (J : It) : Jt := ⟨J.go, J.yld, J.stop, fun _ => True⟩
section
variable {X : Cx} {tg : Expr}
theorem pi_list1 {l : Expr} {tl : TE} (hc : X.calm = true) (hl : PE1 X l tl) : PI1 X tg l (fun σ H R => tl σ H fun x H1 => ∃ a, x = .ref a ∧ (∃ xs, SqL X.K H1 a xs) ∧ R (jt (Itl X.K a)) H1) := by
  refine ⟨fun pins s σ H R I h => wpAny_mono (hl.run pins s σ H _ I h) (fun v s1 ⟨p2, x, H1, hs, I1, r1, a, e, ⟨xs, hq⟩, q⟩ => ?_) fun _ _ z => z⟩
  subst e
  cases r1
  obtain ⟨its, rv, p, hz⟩ := I1.inv.list hq
  have hn : H1 s1.heap.objs.size = none := I1.inv.hok.fresh (Nat.le_refl _)
  refine wpAny_mono (in1_stepH (A := X.A) (R := fun itv σ' H' h' => itv = .ref s1.heap.objs.size ∧ σ' = σ ∧ H' = H1 ∧ h'.IsListIter s1.heap.objs.size a 0) I1
    (wpAny_pyIter_list (s := lulled s1) p.isList ⟨σ, H1, (Inv.lulled I1.inv).kept (t' := s1.toks) fun b o e => Heap.get?_push_of_some _ e, rfl, rfl, rfl, ⟨_, Heap.get?_push_size _ rfl, rfl, rfl⟩⟩)) (fun itv s2 ⟨_, σ', H', J, e1, e2, e3, st⟩ => ?_) fun _ _ z => z
  subst e1 e2 e3
  have f : FpOk X p2 H' s1.heap.objs.size := I1.inv.fpOk (Nat.le_refl _) hn
  refine ⟨_, _, p2, H', _, _, rfl, hs, src_one (one_list hc a s1.heap.objs.size), ⟨J, st, f, ?_⟩, J, q⟩
  obtain ⟨o, eo, _⟩ := st
  exact Heap.lt_size eo
theorem pi_range11 {a : Expr} {ta : TA} {p pos : Pos} (hx : Nox X) (hc : X.calm = true) (hg : L2.Gl X "range") (hm : X.mg "range" = none) (ha : PA X [a] ta) (hs : starEach [a] X.env = [(false, eval a X.env)] := by rfl) :
    PI1 X tg (.Call (.Name "range" p) [a] [] pos) (fun σ H R => ta σ H fun vs H1 => ∃ j : Int, vs = [.int j] ∧ -(2 ^ 62) ≤ j ∧ j < 2 ^ 62 ∧ R (jt (Itr 0 j.toNat)) H1) := by
  refine ⟨fun pins s σ H R I h => ?_⟩
  have ev : wpAny (model X.prog X.w) X.A (eval (.Call (.Name "range" p) [a] [] pos) X.env) (fun v sh => ∃ σ' H', Inv X pins σ' H' sh ∧ ∃ r j t1 t2 t3, v = .ref r ∧ σ' = σ ∧ IsRange sh.heap r 0 j 1 t1 t2 t3 ∧ -(2 ^ 62) ≤ j ∧ j < 2 ^ 62 ∧ R (jt (Itr 0 j.toNat)) H') no (lulled s) := by
    refine wpAny_mono (Call_ (ld_blt (Inv.lulled I.inv) hg hm boot_range (PyProof.Rows.callWith_type1 (thn (ha.run pos pins (lulled s) σ H _ (Inv.lulled I.inv) h) fun us s1 ⟨vs, H1, I1, r1, q1⟩ => ?_) hs rfl))) (fun _ _ z => z) fun e s' z => hx e s' z
    obtain ⟨j, e, q1, q2, q⟩ := q1
    subst e
    cases r1 with
    | cons r rr =>
      cases rr
      obtain ⟨t, rfl⟩ := r
      exact call_range_1 ⟨σ, H1, I1.kept (fun b o e => Heap.get?_push_of_some _ e), _, j, _, _, _, rfl, rfl, IsRange.new .., q1, q2, q⟩
  refine wpAny_mono (in1_stepH (A := X.A) (R := fun v σ' H' h' => ∃ r j t1 t2 t3, v = .ref r ∧ σ' = σ ∧ IsRange h' r 0 j 1 t1 t2 t3 ∧ -(2 ^ 62) ≤ j ∧ j < 2 ^ 62 ∧ R (jt (Itr 0 j.toNat)) H') I ev) (fun v s1 ⟨_, σ', H', I1, r, j, t1, t2, t3, ev1, es, hr, q1, q2, q⟩ => ?_) fun _ _ z => z
  subst ev1 es
  have hn : H' s1.heap.objs.size = none := I1.inv.hok.fresh (Nat.le_refl _)
  refine wpAny_mono (in1_stepH (A := X.A) (R := fun itv σ2 H2 h' => itv = .ref s1.heap.objs.size ∧ σ2 = σ' ∧ H2 = H' ∧ IsRangeIter h' s1.heap.objs.size (0 + ((0 : Nat) : Int) * 1) (((j.toNat : Nat) : Int) - ((0 : Nat) : Int)) 1) I1
    (wpAny_pyIter_range (s := lulled s1) hr (small_one (by omega) (by omega) q1 q2) ⟨σ', H', (Inv.lulled I1.inv).kept (t' := s1.toks) fun b o e => Heap.get?_push_of_some _ e, rfl, rfl, rfl, ?_⟩)) (fun itv s2 ⟨_, σ2, H2, J, e1, e2, e3, st⟩ => ?_) fun _ _ z => z
  · have e1 : (0 : Int) + ((0 : Nat) : Int) * 1 = 0 := by simp
    have e2 : (((j.toNat : Nat) : Int) - ((0 : Nat) : Int)) = Builtin.Range.rangeSize 0 j 1 := by rw [rangeSize_one]; split <;> omega
    rw [e1, e2]
    exact Heap.get?_push_size _ rfl
  · subst e1 e2 e3
    have f : FpOk X pins H2 s1.heap.objs.size := I1.inv.fpOk (Nat.le_refl _) hn
    exact ⟨_, _, pins, H2, _, _, rfl, .refl _, src_one (one_range hc s1.heap.objs.size 0 j.toNat), ⟨J, st, f, Heap.lt_size st⟩, J, q⟩

/-! ### an expression whose value is a new generator -/
abbrev TG1 := L2.St → Hp → ((Hp → Prop) → List Item → Hp → Prop) → Prop
structure PGen1 (X : Cx) (k : Nat) (e : Expr) (tg : TG1) : Prop where
  run : ∀ (pins : Pl) (s : Shared) (σ : L2.St) (H : Hp) (R : (Hp → Prop) → List Item → Hp → Prop), In1 X pins σ H s → tg σ H R → wpAny (Md X.prog X.w) X.A (eval e X.env) (fun u s' => ∃ p2 H1 s1 T items, Sub pins p2 ∧ In1 X p2 σ H1 s1 ∧ Made X k T items p2 σ H1 s1 u s' ∧ R T items H1) no s
theorem pgen_call1 {k : Nat} {f : Addr} {fd : FuncData} {ps : List Str} {sp : SpG1} {ds : List Value} {dvs : List V} {x : Str} {p pos : Pos} {e : Expr} {es : List Expr} {t : TA} (F : GFn1 X.prog X.w X.K X.mg X.base k f fd ps sp) (hr : Room 1 X.A) (hg : L2.Gl X x) (hm : X.mg x = some (.ref f)) (hk : PySem.W.keepIn X.K (.ref f) = true)
    (hb : Binds X.K fd ps ds) (hd : Vals dvs ds) (ha : PA1 X (e :: es) t) (hdb : (x == ("__debug__" : Str)) = false := by decide) (he : starEach (e :: es) X.env = (false, eval e X.env) :: starEach es X.env := by rfl) (hpl : (backTo pos (starEach es X.env)).any (·.1) = false := by rfl) :
    PGen1 X k (.Call (.Name x p) (e :: es) [] pos) (fun σ H R => t σ H fun vs H1 => ∃ T items, sp (vs ++ dvs) H1 T items ∧ R T items H1) := by
  refine ⟨fun pins s σ H R I h => ?_⟩
  refine wpAny_Call_Name_kw (ld_glob1 I.inv hg hm ?_ hdb)
  refine PySem.W.callWith_K (h₀ := X.base) I.inv.ok.mod.kin hk (wpAny_mono (ha.run pos pins s σ H _ I h) (fun us s1 ⟨p2, vs, H1, z, I1, r, T, items, hsp, q⟩ => ⟨I1.inv.kIn, ?_⟩) fun _ _ z => z) he hpl
  have r2 : Vals (vs ++ dvs) (us ++ ds) := r.append hd
  have hl : (us ++ ds).length = ps.length := by rw [← r2.length]; exact F.len _ _ _ _ hsp
  refine wpAny_call (codeAny_mono (F.run X rfl rfl rfl rfl rfl hr p2 σ H1 s1 ⟨us, []⟩ (us ++ ds) (vs ++ dvs) T items I1 (hb s1 us I1.inv.kIn hl) r2 hsp) fun rr s' hq => ?_)
  cases rr with
  | error e => exact False.elim hq
  | ok fl =>
    cases fl with
    | ret u => exact ⟨p2, H1, s1, T, items, z, I1, hq, q⟩
    | next => exact False.elim hq
    | brk => exact False.elim hq
    | cont => exact False.elim hq
/-- what a new generator's consumer begins with -/
theorem made_src {k : Nat} {T : Hp → Prop} {items : List Item} {pins : Pl} {σ : L2.St} {H : Hp} {s : Shared} {it g lo : Nat} {o : Obj} {fp : Pl} {gp : Gl1} {s' : Shared} (hr : Room k X.A) (hc : X.calm = true) (I : In1 X pins σ H s) (m : Fresh1 X k T items pins σ H s it g lo o fp gp s') :
    Src X tg (Jg items T) it (Ct0B X X.prog X.w X.K X.mg X.base k T it g lo items) (CtB X.prog X.w X.K X.mg X.base k T it g lo items) ∧ Ct0B X X.prog X.w X.K X.mg X.base k T it g lo items pins σ H s' := by
  have I2 : In1 X pins σ H s' := ⟨m.inv.inv.pins_of fun q hq => m.inv.inv.pin q (List.mem_append_right _ (List.mem_append_right _ (List.mem_cons_of_mem _ hq))), m.told⟩
  refine ⟨src_gen m.tm rfl rfl, ⟨⟨rfl, rfl, rfl, rfl, rfl, hc, hr, fun b hb => ?_, fun b hb => .inr (Nat.le_trans I.inv.sz (Nat.le_trans m.los hb)), fun x c e => ?_⟩, fp, gp, o, m.inv, m.fpok, m.itok, m.gens, (fun z => absurd z (by decide)), m.obj, m.tt, by rw [List.drop_zero]; exact m.gd⟩, I2, fun q hq => ?_, ?_, ?_, m.lit⟩
  · obtain ⟨_, o2, ho, _⟩ := I.inv.stack.mem hb
    exact Nat.lt_of_lt_of_le (Heap.lt_size ho) m.los
  · obtain ⟨v, z⟩ := I.inv.cell x c e
    exact Nat.lt_of_lt_of_le z.lt m.los
  · exact Nat.lt_of_lt_of_le (Heap.lt_size (I.inv.pin q hq).1) m.los
  · exact Nat.lt_of_lt_of_le I.inv.lt m.los
  · exact Nat.le_trans m.lit (Nat.le_of_lt (Heap.lt_size (m.inv.inv.pin (it, o) (List.mem_append_right _ (List.mem_append_right _ List.mem_cons_self))).1))
theorem pi_gen1 {k : Nat} {e : Expr} {tgn : TG1} (hr : Room k X.A) (hc : X.calm = true) (h : PGen1 X k e tgn) : PI1 X tg e (fun σ H R => tgn σ H fun T items H1 => R (Jg items T) H1) := by
  refine ⟨fun pins s σ H R I hh => wpAny_mono (h.run pins s σ H _ I hh) (fun u s' ⟨p2, H1, s1, T, items, hs, I1, ⟨it, g, lo, o, fp, gp, eu, m⟩, q⟩ => ?_) fun _ _ z => z⟩
  subst eu
  obtain ⟨S, c0⟩ := made_src (tg := tg) hr hc I1 m
  have hg := (m.inv.inv.pin (it, o) (List.mem_append_right _ (List.mem_append_right _ List.mem_cons_self))).1
  exact md_iter_gen hg m.obj ⟨it, _, p2, H1, _, _, rfl, hs, S, c0, c0.2.1, q⟩

/-! ### the loop -/
theorem md_for {P : Program} {w : World} {A : Around} {R : Result → Shared → Prop} {s : Shared} {target : Expr} {it : Value} {body orelse : List Stmt} {env : Env} (I : Nat → Shared → Prop)
    (turn : ∀ n s, I n s → wpAny (Md P w) A (pyNext it) (fun r s1 => match r with
      | none => wpAny (Md P w) A (execs orelse env) (fun f s3 => R (.ok f) s3) no s1
      | some v => wpAny (Md P w) A (letOwnedTupleGo target it v) (fun _ s2 => wpAny (Md P w) A (assign target env v) (fun _ s3 => wpAny (Md P w) A (execs body env) (fun f s4 => match f with
            | .next | .cont => ∃ m, m < n ∧ I m s4
            | .brk => R (.ok .next) s4
            | .ret v => R (.ok (.ret v)) s4) no s3) no s2) no s1) no s)
    (n : Nat) (h : I n s) : codeAny (Md P w) A (.forLoop target it body orelse env) R s := by
  refine md_loop rfl I (fun n s hI => ?_) n h
  show wpAny _ A ((forTurn target it body orelse env).onRaise (fun x => do noteFrame x env; theTreesLotGoes x)) _ _ s
  refine wpAny_noted (wpAny_mono (E := no) ?_ (fun _ _ q => q) fun _ _ q => q.elim)
  simp only [forTurn]
  refine wpAny_bind (wpAny_standAt (wpAny_bind (wpAny_onRaise (wpAny_mono (turn n s hI) (fun r s1 h1 => ?_) fun _ _ z => z.elim))))
  cases r with
  | none => exact wpAny_pure (.inr ⟨rfl, md_block h1⟩)
  | some v =>
    refine wpAny_bind (wpAny_mono h1 (fun _ s2 h2 => ?_) fun _ _ z => z)
    refine wpAny_bind (wpAny_mono h2 (fun _ s3 h3 => wpAny_bind (wpAny_mono h3 (fun f s4 h4 => ?_) fun _ _ z => z)) fun _ _ z => z)
    cases f with
    | next => exact wpAny_pure (.inl ⟨rfl, h4⟩)
    | cont => exact wpAny_pure (.inl ⟨rfl, h4⟩)
    | brk => exact wpAny_pure h4
    | ret v => exact wpAny_pure h4
theorem Asleep.trans {a b c : Shared} (h : Asleep a b) (k : Asleep b c) : Asleep a c := fun i kk l cc p fs cl e => k i kk l cc p fs cl (h i kk l cc p fs cl e)
def tFor1 (wi : TI1) (g : TG) (tb : TS) : TS := fun D σ H => wi σ H fun J H1 => ∃ W : Nat → Nat → L2.St → Hp → Prop, (∃ m, W 0 m σ H1) ∧ ∀ i m σ H, W i m σ H →
  (J.stop i H ∧ ∀ H', Ext H H' → D.nx σ H') ∨ (J.go i H ∧ ∃ N : L2.St → Hp → Prop, (∀ σ' H', N σ' H' → J.ok H' ∧ ∃ m', m' < m ∧ W (i + 1) m' σ' H') ∧ ∀ x H', J.yld i H x H' → g x σ H' fun σ2 H2 => tb { D with nx := N, ct := N, bk := D.nx } σ2 H2)
theorem ps_for1 {iter : Expr} {body : List Stmt} {wi : TI1} {g : TG} {tb : TS} {pos : Pos} (hx : Nox X) (hi : PI1 X tg iter wi) (hg : PG X tg g) (hb : PSs1 X body tb) (hs : ∀ x, foldedSetIterable iter X.env x = pure x := by intro _; rfl) : PS1 X (.For tg iter body [] pos) (tFor1 wi g tb) := by
  refine ⟨fun pins s σ H D I h => ?_⟩
  refine wpAny_For (wpAny_mono (hi.run pins s σ H _ I h) (fun v s1 h1 => wpAny_mono h1 (fun itv s2 h2 => ?_) fun _ _ z => z) fun _ _ z => z) hs
  obtain ⟨it, J, p2, H2, C0, C, e, hsub, S, c0, I2, W, ⟨m0, w0⟩, turn⟩ := h2
  subst e
  refine md_for (fun n s' => ∃ i p σ' H', Sub pins p ∧ C X p i σ' H' s' ∧ W i n σ' H') ?_ m0 ⟨0, p2, σ, H2, hsub, S.start c0, w0⟩
  rintro n s3 ⟨i, p, σ3, H3, hp, c3, w3⟩
  rcases turn i n σ3 H3 w3 with ⟨stop, qn⟩ | ⟨go, N, hN, step⟩
  · refine wpAny_mono (S.done (.refl X) c3 stop) (fun r s4 ⟨hr, p4, H4, h4, I4, x4⟩ => ?_) fun _ _ z => z
    subst hr
    exact wpAny_execs_nil ⟨p4, σ3, H4, hp.trans h4, I4, qn H4 x4⟩
  · refine wpAny_mono (S.next (.refl X) c3 go) (fun r s4 ⟨u, hr, h4⟩ => ?_) fun _ _ z => z
    subst hr
    refine wpAny_mono h4 (fun _ s5 ⟨x, H5, c5, r5, y5⟩ => ?_) fun _ _ z => z
    obtain ⟨fp, I5, back⟩ := S.hold c5
    refine wpAny_mono (in1_pg hx I5 hg r5 (step x H5 y5)) (fun _ s6 ⟨as6, σ6, H6, I6, q6⟩ => ?_) fun _ _ z => z
    refine wpAny_mono (hb.asleep I6 q6) (fun f s7 ⟨as7, q7⟩ => ?_) fun _ _ z => z
    have again : ∀ {p7 σ7 H7}, Sub (fp ++ p) p7 → In1 X p7 σ7 H7 s7 → N σ7 H7 → ∃ m, m < n ∧ ∃ i p σ' H', Sub pins p ∧ C X p i σ' H' s7 ∧ W i m σ' H' := fun {p7 σ7 H7} s7' I7 n7 => by
      obtain ⟨ok, m', hm, w7⟩ := hN σ7 H7 n7
      obtain ⟨p8, h8, c8⟩ := back I7 s7' (as6.trans as7) ok
      exact ⟨m', hm, i + 1, p8, σ7, H7, hp.trans h8, c8, w7⟩
    have sub : ∀ {p7 : Pl}, Sub (fp ++ p) p7 → Sub pins p7 := fun h q hq => h q (List.mem_append_right _ (hp q hq))
    cases f with
    | next => obtain ⟨p7, σ7, H7, h7, I7, n7⟩ := q7; exact again h7 I7 n7
    | cont => obtain ⟨p7, σ7, H7, h7, I7, n7⟩ := q7; exact again h7 I7 n7
    | brk => obtain ⟨p7, σ7, H7, h7, I7, q7⟩ := q7; exact ⟨p7, σ7, H7, sub h7, I7, q7⟩
    | ret v => obtain ⟨p7, x7, σ7, H7, h7, I7, r7, q7⟩ := q7; exact ⟨p7, x7, σ7, H7, sub h7, I7, r7, q7⟩
end
end Gk
/-! Comprehensions in the marked machine. -/
namespace Gk
open PySem PySem.Spec PyProof.Rows L2
open Sem (wp)

/-- the form of a turn -/
def TurnEq (e target iter : Expr) (ifs : List Expr) (emit : Value → Env → Sem Unit) : Prop := ∀ (it : Value) (D : Addr) (env : Env), compTurn e 0 it (.ref D) env = (do
      standAt iter.pos
      match ← pyNext it with
      | none => pure (.done .next)
      | some v =>
        letOwnedTupleGo target it v
        assign target env v
        let mut ok := true
        for c in ifs do
          if ok then ok ← isTrue c env (eval c env)
        if ok then
          emit (.ref D) env
        again (.compLoop e 0 it (.ref D) env))
theorem den_compLoop {e : Expr} {it acc : Value} {env : Env} (h : ∀ elt gens sc pos, e ≠ .GeneratorExp elt gens sc pos) : denote table (.compLoop e 0 it acc env) = (compTurn e 0 it acc env).onRaise (fun x => do noteFrame x env; theTreesLotGoes x) := by
  cases e <;> first | rfl | exact absurd rfl (h _ _ _ _)
theorem den_compStart {e : Expr} {it acc : Value} {env : Env} (h : ∀ elt gens sc pos, e ≠ .GeneratorExp elt gens sc pos) : denote table (.compStart e 0 it acc env) = (compStart e 0 it acc env).onRaise (fun x => do noteFrame x env; standAt theWindowsPlace) := by
  cases e <;> first | rfl | exact absurd rfl (h _ _ _ _)
section
variable {P : Program} {w : World} {A : Around} {R : Result → Shared → Prop} {s : Shared} {e target iter : Expr} {ifs : List Expr} {it acc : Value} {env : Env} {emit : Value → Env → Sem Unit}
theorem md_compLoop {D : Addr} (hge : ∀ elt gens sc pos, e ≠ .GeneratorExp elt gens sc pos) (he : TurnEq e target iter ifs emit) (hq : (Code.compLoop e 0 it (.ref D) env).quiet = true) (I : Nat → Shared → Prop)
    (turn : ∀ n s, I n s → wpAny (Md P w) A (pyNext it) (fun r s1 => match r with
      | none => R (.ok .next) s1
      | some v => wpAny (Md P w) A (letOwnedTupleGo target it v) (fun _ s2 => wpAny (Md P w) A (assign target env v) (fun _ s3 =>
          wpAny (Md P w) A (forIn ifs true fun c r => if r = true then do let ok ← isTrue c env (eval c env); pure (ForInStep.yield ok) else pure (ForInStep.yield r)) (fun ok s4 =>
            if ok = true then wpAny (Md P w) A (emit (.ref D) env) (fun _ s5 => ∃ m, m < n ∧ I m s5) no s4 else ∃ m, m < n ∧ I m s4) no s3) no s2) no s1) no s)
    (n : Nat) (h : I n s) (hu : A.under (Code.compLoop e 0 it (.ref D) env) = A) : codeAny (Md P w) A (.compLoop e 0 it (.ref D) env) R s := by
  refine md_loop hq I (fun n s hI => ?_) n h
  rw [hu]
  show wpAny _ A (denote table (.compLoop e 0 it (.ref D) env)) _ _ s
  rw [den_compLoop hge]
  refine wpAny_noted (wpAny_mono (E := no) ?_ (fun _ _ q => q) fun _ _ q => q.elim)
  rw [he]
  refine wpAny_bind (wpAny_standAt (wpAny_bind (wpAny_mono (turn n s hI) (fun r s1 h1 => ?_) fun _ _ z => z)))
  cases r with
  | none => exact wpAny_pure h1
  | some v =>
    refine wpAny_bind (wpAny_mono h1 (fun _ s2 h2 => ?_) fun _ _ z => z)
    refine wpAny_bind (wpAny_mono h2 (fun _ s3 h3 => wpAny_bind (wpAny_mono h3 (fun ok s4 h4 => ?_) fun _ _ z => z)) fun _ _ z => z)
    cases ok with
    | false => exact wpAny_pure (.inl ⟨rfl, h4⟩)
    | true => exact wpAny_bind (wpAny_mono h4 (fun _ s5 h5 => wpAny_pure (.inl ⟨rfl, h5⟩)) fun _ _ z => z)
theorem md_compStart (hge : ∀ elt gens sc pos, e ≠ .GeneratorExp elt gens sc pos) (hq : (Code.compLoop e 0 it acc env).quiet = true) (hu : A.under (Code.compStart e 0 it acc env) = A) (hcl : clausesOf e = [⟨target, iter, ifs, 0⟩]) (h0 : codeAny (Md P w) A (.compLoop e 0 it acc env) R s)
    (h : ∀ (Q : Value → Shared → Prop), Q it s → wpAny (Md P w) A (pyIter it) Q no s) : codeAny (Md P w) A (.compStart e 0 it acc env) R s := by
  refine md_tree ?_
  rw [hu]
  show wpAny _ A (denote table (.compStart e 0 it acc env)) _ _ s
  rw [den_compStart hge]
  refine wpAny_notedAt (wpAny_mono (E := no) ?_ (fun _ _ q => q) fun _ _ q => q.elim)
  unfold compStart
  rw [hcl]
  show wpAny _ _ (ask >>= _) _ _ s
  refine wpAny_bind (wpAny_askSetting (wpAny_ite ?_))
  split
  · first
      | exact wpAny_bind (wpAny_pure (wpAny_pure (And.intro hq h0)))
      | exact wpAny_pure (And.intro hq h0)
  · refine wpAny_bind (wpAny_rule ?_)
    show wpAny _ _ (standAt iter.pos >>= _) _ _ s
    exact wpAny_bind (wpAny_standAt (wpAny_bind (h _ (wpAny_pure (And.intro hq h0)))))
end

/-! ### what a turn lays down -/
structure PEm (X : Cx) (em : Sem Unit) (t : L2.St → Hp → (Hp → Prop) → Prop) : Prop where
  run : ∀ (pins : Pl) (s : Shared) (σ : L2.St) (H : Hp) (Q : Hp → Prop), In1 X pins σ H s → t σ H Q → wpAny (Md X.prog X.w) X.A em (fun _ s' => ∃ p2 H', Sub pins p2 ∧ In1 X p2 σ H' s' ∧ Q H') no s
theorem PEm.asleep {X : Cx} {em : Sem Unit} {t : L2.St → Hp → (Hp → Prop) → Prop} (h : PEm X em t) {pins : Pl} {s : Shared} {σ : L2.St} {H : Hp} {Q : Hp → Prop} (I : In1 X pins σ H s) (ht : t σ H Q) :
    wpAny (Md X.prog X.w) X.A em (fun _ s' => Asleep s s' ∧ ∃ p2 H', Sub pins p2 ∧ In1 X p2 σ H' s' ∧ Q H') no s :=
  wpAny_mono (wpAny_asleep (h.run pins _ σ H Q I.lulled ht)) (fun _ s' ⟨a, sh, z, p2, H', u, J, q⟩ => ⟨a, p2, H', u, J.of_zz z, q⟩) fun _ _ ⟨_, _, _, z⟩ => z
theorem in1_pts {X : Cx} {pins : Pl} {σ : L2.St} {H : Hp} {s : Shared} {ifs : List Expr} {tt : TT} {Q : Bool → Hp → Prop} (hx : Nox X) (I : In1 X pins σ H s) (hp : PTs X ifs tt) (ht : tt σ H Q) :
    wpAny (Md X.prog X.w) X.A (forIn ifs true fun c r => if r = true then do let ok ← isTrue c X.env (eval c X.env); pure (ForInStep.yield ok) else pure (ForInStep.yield r)) (fun b s' => Asleep s s' ∧ ∃ H', In1 X pins σ H' s' ∧ Q b H') no s :=
  wpAny_mono (in1_stepH (R := fun b σ' H' _ => σ' = σ ∧ Q b H') I (wpAny_mono (hp.run _ _ σ H _ (Inv.lulled I.inv) ht) (fun b sh ⟨H', J, q⟩ => ⟨σ, H', J, rfl, q⟩) fun _ _ z => hx _ _ z)) (fun b s' ⟨as, σ', H', J, e, q⟩ => ⟨as, H', by subst e; exact J, q⟩) fun _ _ z => z

theorem Inv.exMono {X : Cx} {pins : Pl} {σ : L2.St} {H : Hp} {s : Shared} {ex : List Addr} (I : Inv X pins σ H s) (hsub : ∀ b ∈ X.ex, b ∈ ex) (h : ∀ b ∈ ex, (b ≠ X.env.locals ∧ ∀ x c, X.env.cells.lookup x = some c → c ≠ b) ∧ b ∉ X.fs ∧ X.base.get? b = none) : Inv { X with ex := ex } pins σ H s :=
  ⟨⟨I.ok.mod, I.ok.kind, I.ok.glob, I.ok.blt, I.ok.above, I.ok.inj, I.ok.has, I.ok.cab, I.ok.hd, I.ok.frames, I.ok.stk, fun b hb => (h b hb).1, I.ok.bs, I.ok.bsz, (fun b o e hb => by rw [(h b hb).2.2] at e; cases e), fun b hb => (h b hb).2.1, I.ok.funs, I.ok.frf⟩, I.os, I.bare, I.base.mono (fun _ z => z) hsub, I.loc, I.cell, I.free, I.freeC, I.pin, I.hok, I.len⟩

abbrev tCm (wi : TI1) (g : TG) (tt : TT) (tem : Addr → L2.St → Hp → (Hp → Prop) → Prop) (h0 : Addr → HO) (vs : List Nat) : TE := fun σ H Q => wi σ H fun J H1 => ∀ D, H1 D = none → ∃ W : Nat → Nat → Hp → Prop, (∃ m, W 0 m (upd H1 D (h0 D))) ∧ ∀ i m H, W i m H →
  (J.stop i H ∧ ∀ H', Ext H H' → Q (.ref D) H') ∨ (J.go i H ∧ ∃ Nx : Hp → Prop, (∀ H', Nx H' → J.ok H' ∧ ∃ m', m' < m ∧ W (i + 1) m' H') ∧ ∀ x H', J.yld i H x H' → g x (wipe σ vs) H' fun σ2 H2 => wipe σ2 vs = wipe σ vs ∧ tt σ2 H2 fun b H3 =>
    if b = true then tem D σ2 H3 Nx else Nx H3)
theorem blk_under {A : Around} {e : Expr} {it acc : Value} {env : Env} (h : ∀ elt gens sc pos, e ≠ .GeneratorExp elt gens sc pos) : A.under (Code.compLoop e 0 it acc env) = A ∧ A.under (Code.compStart e 0 it acc env) = A ∧ (Code.compLoop e 0 it acc env).quiet = true := by
  cases e <;> first | exact ⟨rfl, rfl, rfl⟩ | exact absurd rfl (h _ _ _ _)
section
variable {X : Cx}
theorem comp1 {e tg iter : Expr} {ifs : List Expr} {scope : Scope} {own : List (Str × Nat)} {pos' : Pos} {wi : TI1} {g : TG} {tt : TT} {emit : Value → Env → Sem Unit} {tem : Addr → L2.St → Hp → (Hp → Prop) → Prop} {newAcc : Sem Value} {oAcc : Obj} {h0 : Addr → HO}
    (hx : Nox X) (hN : X.N.Nodup) (hi : PI1 X tg iter wi) (ok : BlkOk X.N X.env.scope scope own) (hnocell : ∀ y ∈ scope.names, y.2 ≠ .cell) (hcl : clausesOf e = [⟨tg, iter, ifs, 0⟩]) (he : TurnEq e tg iter ifs emit) (hge : ∀ elt gens sc pos, e ≠ .GeneratorExp elt gens sc pos)
    (hnew : ∀ {A : Around} {s : Shared} {Q : Value → Shared → Prop}, AllBare s.gens → Q (.ref s.heap.objs.size) { s with heap := s.heap.push oAcc } → wpAny (Md X.prog X.w) A newAcc Q no s) (hobj : ∀ (H : Hp) (h : Heap) (D : Addr), sysModules < D → h.get? D = some oAcc → ObjOk X.prog X.w H h D (h0 D)) (hfr : oAcc.isFreed = false)
    (hg : ∀ (s : Shared) (H : Hp) (C : Addr) (cl : List (Str × Addr)) (fp : List Addr), PG (X.blk s H scope (compEnvC scope cl C X.env) fp) tg g) (ht : ∀ (s : Shared) (H : Hp) (C : Addr) (cl : List (Str × Addr)) (fp : List Addr), PTs (X.blk s H scope (compEnvC scope cl C X.env) fp) ifs tt)
    (hem : ∀ (s : Shared) (H : Hp) (C : Addr) (cl : List (Str × Addr)) (fp : List Addr) (D : Addr), PEm (X.blk s H scope (compEnvC scope cl C X.env) fp) (emit (.ref D) (compEnvC scope cl C X.env)) (tem D)) (hs : ∀ x, foldedSetIterable iter X.env x = pure x)
    {pins : Pl} {s : Shared} {σ : L2.St} {H : Hp} {Q : VK} (I : In1 X pins σ H s) (h : tCm wi g tt tem h0 (own.map (·.2)) σ H Q) :
    wpAny (Md X.prog X.w) X.A (comprehension e scope X.env pos' newAcc false (eval iter X.env) none) (EP1 X pins σ Q) no s := by
  have hfree : ∀ y ∈ scope.names, y.2 = .free → ∃ c, X.env.cells.lookup y.1 = some c := fun y hy e => by
    rcases ok.free y hy e with k | k
    · exact I.inv.ok.has _ (.inl k)
    · exact I.inv.ok.has _ (.inr k)
  obtain ⟨hu1, hu2, hq⟩ : (∀ (A : Around) it acc env, A.under (Code.compLoop e 0 it acc env) = A) ∧ (∀ (A : Around) it acc env, A.under (Code.compStart e 0 it acc env) = A) ∧ ∀ it acc env, (Code.compLoop e 0 it acc env).quiet = true :=
    ⟨fun A it acc env => (blk_under (A := A) hge).1, fun A it acc env => (blk_under (A := A) hge).2.1, fun it acc env => (blk_under (A := X.A) hge).2.2⟩
  refine wpAny_comprehension_free (use := none) (g := ⟨tg, iter, ifs, 0⟩) (gs := []) hcl hs (closure_ok hfree) ok.kind (fun y hy e => by rw [ok.uniq y hy, e])
    (wpAny_mono (hi.run pins s σ H _ I h) (fun xv s1 hx1 => wpAny_mono hx1 (fun itv s2 h2 => ?_) fun _ _ z => z) fun _ _ z => z)
  obtain ⟨it, J, p, H2, C0, C, ee, hsub, S, c0, I2, q⟩ := h2
  subst ee
  refine hnew I2.inv.bare (newEnv_comp ?_)
  generalize hD : s2.heap.objs.size = D
  have hDn : H2 D = none := I2.inv.hok.fresh (Nat.le_of_eq hD)
  obtain ⟨W, ⟨m0, w0⟩, turn⟩ := q D hDn
  generalize hs3 : ({ s2 with heap := s2.heap.push oAcc } : Shared) = s3
  have h3 : s3.heap = s2.heap.push oAcc := by rw [← hs3]
  have g3 : s3.gens = s2.gens := by rw [← hs3]
  have k3 : ∀ b o, s2.heap.get? b = some o → s3.heap.get? b = some o := fun b o e => by rw [h3]; exact Heap.get?_push_of_some _ e
  have eD : s3.heap.get? D = some oAcc := by rw [h3, ← hD]; exact Heap.get?_push_size _ hfr
  have c3 : C0 p σ (upd H2 D (h0 D)) s3 := by
    have z := S.grow c0 (D := D) (ho := h0 D) (h' := s3.heap) (t' := s2.toks) k3 (Nat.le_of_eq hD) (by rw [h3, Heap.size_push]; exact Nat.le_succ _) (hobj _ _ D (by rw [← hD]; exact I2.inv.big) eD)
    have ez : ({ s2 with heap := s3.heap, toks := s2.toks } : Shared) = s3 := by rw [← hs3]
    rw [ez] at z
    exact z
  have I3 : Inv X p σ (upd H2 D (h0 D)) s3 := S.begun c3
  obtain ⟨ex, hex, bl⟩ := S.blk c3
  have I4 := block_start (fp := []) I3 ok hN (fun b z => absurd z (by simp))
  have pg := hg s3 (upd H2 D (h0 D)) s3.heap.objs.size (cellsFrom (s3.heap.objs.size + 1) scope.names (cloFrom X.env.cells scope.names [])) ex
  have pt := ht s3 (upd H2 D (h0 D)) s3.heap.objs.size (cellsFrom (s3.heap.objs.size + 1) scope.names (cloFrom X.env.cells scope.names [])) ex
  have pem := hem s3 (upd H2 D (h0 D)) s3.heap.objs.size (cellsFrom (s3.heap.objs.size + 1) scope.names (cloFrom X.env.cells scope.names [])) ex D
  have hcells : ∀ x c, (cellsFrom (s3.heap.objs.size + 1) scope.names (cloFrom X.env.cells scope.names [])).lookup x = some c → X.env.cells.lookup x = some c := fun x c e => by
    rw [← Heap.size_push s3.heap { cls := .type "dict", data := .dict #[] }] at e
    rcases cells_mem (PySem.mem_of_lookup e) with hm | ⟨hm, _⟩
    · rcases cloFrom_mem hm with hm | ⟨h1, rfl⟩
      · cases hm
      · obtain ⟨c, hc⟩ := hfree _ h1 rfl
        rw [hc]; rfl
    · exact absurd rfl (hnocell _ hm)
  show codeAny _ _ (.compStart e 0 (.ref it) (.ref D) (compEnvC scope (cellsFrom (s3.heap.objs.size + 1) scope.names (cloFrom X.env.cells scope.names [])) s3.heap.objs.size X.env)) (compPost (Md X.prog X.w) X.A no none (EP1 X pins σ Q) (.ref D) s3.heap.objs.size) { s3 with heap := pushCells (s3.heap.push { cls := .type "dict", data := .dict #[] }) scope.names }
  generalize hce : compEnvC scope (cellsFrom (s3.heap.objs.size + 1) scope.names (cloFrom X.env.cells scope.names [])) s3.heap.objs.size X.env = ce at I4 pg pt pem ⊢
  have cL : ce.locals = s3.heap.objs.size := by subst hce; rfl
  have cC : ∀ x c, ce.cells.lookup x = some c → X.env.cells.lookup x = some c := by subst hce; exact hcells
  have k4 : ∀ b o, s3.heap.get? b = some o → (pushCells (s3.heap.push { cls := .type "dict", data := .dict #[] }) scope.names).get? b = some o := fun b o e => pushCells_keeps _ _ _ _ (Heap.get?_push_of_some _ e)
  generalize hs4 : ({ s3 with heap := pushCells (s3.heap.push { cls := .type "dict", data := .dict #[] }) scope.names } : Shared) = s4 at I4 ⊢
  have g4 : s4.gens = s3.gens := by rw [← hs4]
  have kk4 : ∀ b o, s3.heap.get? b = some o → s4.heap.get? b = some o := fun b o e => by rw [← hs4]; exact k4 b o e
  have I5 : Inv (X.blk s3 (upd H2 D (h0 D)) scope ce ex) [] (wipe σ (own.map (·.2))) (upd H2 D (h0 D)) s4 := by
    refine Inv.exMono I4 (fun b z => absurd (show b ∈ ([] : List Addr) from z) (by simp)) fun b hb => ?_
    obtain ⟨e1, e2, e3, e4, e5⟩ := hex b hb
    refine ⟨⟨fun z => ?_, fun x c e => e3 x c (cC x c e)⟩, fun z => ?_, ?_⟩
    · have z' : b = ce.locals := z
      rw [cL] at z'
      exact absurd e5 (by rw [z']; exact Nat.lt_irrefl _)
    · have z' : b ∈ frs X.stack := z
      rcases List.mem_cons.mp (I3.stkSub b z') with w | w
      · exact e2 w
      · rcases e1 with e1 | e1
        · exact I3.ok.exfs b e1 w
        · obtain ⟨_, o2, ho, _⟩ := I3.ok.funs.mem w
          exact absurd (Heap.lt_size ho) (Nat.not_lt.mpr e1)
    · cases q : X.base.get? b with
      | none => rfl
      | some o =>
        rcases e1 with e1 | e1
        · exact absurd e1 (I3.ok.noex b o q)
        · exact absurd (Nat.lt_of_lt_of_le (Heap.lt_size q) (Nat.le_trans I3.ok.bsz e1)) (Nat.lt_irrefl _)
  have c5 := bl I5 kk4 g4 (Nat.le_of_eq cL.symm) cC
  have kin : Kin X (X.blk s3 (upd H2 D (h0 D)) scope ce ex) := ⟨rfl, rfl, rfl, rfl, rfl, rfl, rfl, rfl⟩
  have hxb : Nox (X.blk s3 (upd H2 D (h0 D)) scope ce ex) := fun _ _ z => z
  -- back in the def
  have fin : ∀ {p6 : Pl} {H6 : Hp} {s6 : Shared}, In1 (X.blk s3 (upd H2 D (h0 D)) scope ce ex) p6 (wipe σ (own.map (·.2))) H6 s6 → Sub p p6 → Q (.ref D) H6 → compPost (Md X.prog X.w) X.A no none (EP1 X pins σ Q) (.ref D) s3.heap.objs.size (.ok .next) s6 := fun {p6 H6 s6} J hp6 qq => by
    have I7 : Inv X p σ H6 s6 := I3.call' (ch := ex) J.inv.os J.inv.base J.inv.hok J.inv.bare fun b hb => ⟨(hex b hb).1, (hex b hb).2.1, (hex b hb).2.2.1, (hex b hb).2.2.2.1⟩
    have nC : H6 s3.heap.objs.size = none := by
      have z : H6 ce.locals = none := J.inv.free
      rw [cL] at z
      exact z
    obtain ⟨m, hn, _⟩ := J.inv.loc
    have hn : s6.heap.Ns ce.locals m := hn
    rw [cL] at hn
    refine ⟨m, hn, fun h'' sb => ?_⟩
    obtain ⟨f0, f1, f2, f3, f4, f5⟩ := I3.fpOk (Nat.le_refl _) nC
    have I8 : Inv X p σ H6 { s6 with heap := h'' } := I7.turned (t' := s6.toks) (fun b o hb e => (sb.2 b hb).trans e) f0 f1 f3 f4 f5
    have pfil : ∀ q ∈ p6.filter (fun q => Gk.isG q.2), h''.get? q.1 = some q.2 ∧ H6 q.1 = none ∧ q.1 ≠ X.env.locals ∧ q.1 ∉ X.fs ∧ ∀ v, q.2.data ≠ .cell v := fun q hq => by
      obtain ⟨hm, hg⟩ := List.mem_filter.mp hq
      have z := J.inv.pin q (List.mem_append_right _ hm)
      have data : ∃ vs, q.2.data = .fields vs := by
        have hg' : Gk.isG q.2 = true := hg
        unfold Gk.isG Obj.genNumber? at hg'
        cases d : q.2.data with
        | fields vs => exact ⟨vs, rfl⟩
        | _ => rw [d] at hg'; simp at hg'
      obtain ⟨vs, hd⟩ := data
      have ne : q.1 ≠ s3.heap.objs.size := by rw [← cL]; exact z.2.2.1
      have e2 : h''.get? q.1 = some q.2 := (sb.2 q.1 ne).trans z.1
      refine ⟨e2, z.2.1, fun w => ?_, fun w => ?_, fun v d => by rw [hd] at d; cases d⟩
      · obtain ⟨m2, ⟨o2, es, ep, e3, d3, _⟩, _⟩ := I8.loc
        have e4 : h''.get? X.env.locals = some o2 := e3
        rw [← w, e2] at e4
        cases e4
        rw [hd] at d3; cases d3
      · refine z.2.2.2.1 ?_
        show q.1 ∈ frs X.stack
        rcases I3.ok.stk with e | ⟨e, hf⟩
        · rw [e]; exact w
        · rw [e]
          unfold frs
          rw [List.filterMap_cons, hf]
          exact List.mem_cons_of_mem _ w
    refine ⟨p ++ p6.filter (fun q => Gk.isG q.2), .ref D, H6, fun q hq => List.mem_append_left _ (hsub q hq), ⟨I8.pins_of fun q hq => ?_, fun i k a c pp fs cl e => ?_⟩, rfl, qq⟩
    · rcases List.mem_append.mp hq with hq | hq
      · exact I8.pin q (List.mem_append_right _ hq)
      · exact pfil q hq
    · obtain ⟨o, hm, hg⟩ := J.told i k a c pp fs cl e
      exact ⟨o, List.mem_append_right _ (List.mem_filter.mpr ⟨hm, hg⟩), hg⟩
  have loop : codeAny (Md X.prog X.w) X.A (.compLoop e 0 (.ref it) (.ref D) ce) (compPost (Md X.prog X.w) X.A no none (EP1 X pins σ Q) (.ref D) s3.heap.objs.size) s4 := by
    refine md_compLoop hge he (hq _ _ _) (fun n s' => ∃ i p' H', Sub p p' ∧ C (X.blk s3 (upd H2 D (h0 D)) scope ce ex) p' i (wipe σ (own.map (·.2))) H' s' ∧ W i n H') ?_ m0 ⟨0, p, upd H2 D (h0 D), .refl _, c5, w0⟩ (hu1 _ _ _ _)
    rintro n s5 ⟨i, p5, H5, hp5, c5, w5⟩
    rcases turn i n H5 w5 with ⟨stop, qq⟩ | ⟨go, Nx, hNx, step⟩
    · refine wpAny_mono (S.done kin c5 stop) (fun r s6 ⟨hr, p6, H6, h6, I6, x6⟩ => ?_) fun _ _ z => z
      subst hr
      exact fin I6 (hp5.trans h6) (qq H6 x6)
    · refine wpAny_mono (S.next kin c5 go) (fun r s6 ⟨u, hr, h6⟩ => ?_) fun _ _ z => z
      subst hr
      refine wpAny_mono h6 (fun _ s7 ⟨x, H7, c7, r7, y7⟩ => ?_) fun _ _ z => z
      obtain ⟨fp, I7, back⟩ := S.hold c7
      refine wpAny_mono (in1_pg hxb I7 pg r7 (step x H7 y7)) (fun _ s8 ⟨as8, σ8, H8, I8, hw8, q8⟩ => ?_) fun _ _ z => z
      refine wpAny_mono (in1_pts hxb I8 pt q8) (fun b s9 ⟨as9, H9, I9, q9⟩ => ?_) fun _ _ z => z
      have again : ∀ {s' : Shared} {H' : Hp} {p' : Pl}, In1 (X.blk s3 (upd H2 D (h0 D)) scope ce ex) p' σ8 H' s' → Sub (fp ++ p5) p' → Asleep s7 s' → Nx H' → ∃ m, m < n ∧ ∃ i p' H', Sub p p' ∧ C (X.blk s3 (upd H2 D (h0 D)) scope ce ex) p' i (wipe σ (own.map (·.2))) H' s' ∧ W i m H' := fun {s' H' p'} I' hs' as' nx => by
        obtain ⟨okj, m', hm, w'⟩ := hNx H' nx
        have hl : (wipe σ (own.map (·.2))).length = σ8.length := by rw [← hw8, wipe_length]
        have I'' : In1 (X.blk s3 (upd H2 D (h0 D)) scope ce ex) p' (wipe σ (own.map (·.2))) H' s' := ⟨I'.inv.weak hl fun j v e => by rw [← hw8] at e; exact (wipe_some e).1, I'.told⟩
        obtain ⟨p8, h8, c8⟩ := back I'' hs' as' okj
        exact ⟨m', hm, i + 1, p8, H', hp5.trans h8, c8, w'⟩
      cases b with
      | false =>
        rw [if_neg Bool.false_ne_true] at q9 ⊢
        exact again I9 (.refl _) (as8.trans as9) q9
      | true =>
        rw [if_pos rfl] at q9 ⊢
        refine wpAny_mono (pem.asleep I9 q9) (fun _ s10 ⟨as10, p10, H10, h10, I10, nx⟩ => ?_) fun _ _ z => z
        exact again I10 h10 ((as8.trans as9).trans as10) nx
  exact md_compStart hge (hq _ _ _) (hu2 _ _ _ _) hcl loop fun Q2 hq2 => S.self c3 g4 kk4 hq2
end
end Gk
/-! Statements and expressions of the marked machine. -/
namespace Gk
open PySem PySem.Spec PyProof.Rows L2
open Sem (wp)

section
variable {X : Cx} {a b c e : Expr} {es : List Expr} {ta tb te : TE} {t : TA} {pos : Pos}
theorem lift_ep {pins : Pl} {σ : L2.St} {H : Hp} {s : Shared} {A : Around} {Q : VK} {t : Sem Value} (hx : Nox X) (I : In1 X pins σ H s) (h : wpAny (model X.prog X.w) A t (EP X pins σ Q) X.xe (lulled s)) : wpAny (Md X.prog X.w) A t (EP1 X pins σ Q) no s :=
  wpAny_mono (in1_stepH (R := fun u σ' H' _ => σ' = σ ∧ ∃ v, RelV v u ∧ Q v H') I (wpAny_mono h (fun u sh ⟨v, H', J, r, q⟩ => ⟨σ, H', J, rfl, v, r, q⟩) fun _ _ z => hx _ _ z)) (fun u s' ⟨_, σ', H', J, e, v, r, q⟩ => ⟨pins, v, H', .refl _, by subst e; exact J, r, q⟩) fun _ _ z => z
theorem mo {M : Model} {A : Around} {s : Shared} {α : Type} {t : Sem α} {Q Q' : α → Shared → Prop} (h : wpAny M A t Q no s) (k : ∀ a s', Q a s' → Q' a s') : wpAny M A t Q' no s := wpAny_mono h k fun _ _ z => z
theorem pe_imp1 {te te' : TE} (h : PE1 X e te) (k : ∀ σ H Q, te' σ H Q → te σ H Q) : PE1 X e te' := ⟨fun pins s σ H Q I q => h.run pins s σ H Q I (k _ _ _ q)⟩
theorem pe_op1 {op : Operator} {r : R2} (hx : Nox X) (ho : OpR X (binaryOp op) r) (ha : PE1 X a ta) (hb : PE1 X b tb) : PE1 X (.BinOp a op b pos) (tOp r ta tb) := by
  refine ⟨fun pins s σ H Q I h => wpAny_BinOp (mo (ha.run pins s σ H _ I h) fun v s1 ⟨p1, x, H1, z1, I1, r1, q1⟩ => mo (hb.run p1 s1 σ H1 _ I1 q1) fun u s2 ⟨p2, y, H2, z2, I2, r2, q2⟩ => ?_)⟩
  exact mo (lift_ep hx I2 (ho p2 _ σ H2 x y v u Q (Inv.lulled I2.inv) r1 r2 q2)) fun _ _ w => w.sub (z1.trans z2)
theorem pt_cmp1 {op : CmpOp} {r : R2} (hx : Nox X) (ho : OpR X (compareOp op) r) (ha : PE1 X a ta) (hb : PE1 X b tb) (hm : behindInMarks op b = false) : PT1 X (.Compare a [op] [b] pos) (tTest (tOp r ta tb)) := by
  refine ⟨fun pins s σ H Q I h => wpAny_isTrue_Compare1 (mo (ha.run pins s σ H _ I h) fun v s1 ⟨p1, x, H1, z1, I1, r1, q1⟩ => mo (hb.run p1 s1 σ H1 _ I1 q1) fun u s2 ⟨p2, y, H2, z2, I2, r2, q2⟩ => ?_) hm⟩
  refine mo (lift_ep hx I2 (ho p2 _ σ H2 x y v u _ (Inv.lulled I2.inv) r1 r2 q2)) fun c s3 ⟨p3, z, H3, z3, I3, r3, k, e, q3⟩ => ?_
  subst e
  cases r3
  exact wpAny_truthy_bool ⟨p3, H3, (z1.trans z2).trans z3, I3, q3⟩
structure PW1 (X : Cx) (e : Expr) (t : TT) : Prop where
  run : ∀ (wh : Sem Value) (pins : Pl) (s : Shared) (σ : L2.St) (H : Hp) (Q : Bool → Hp → Prop), In1 X pins σ H s → t σ H Q → wpAny (Md X.prog X.w) X.A (isTrue e X.env wh) (TP1 X pins σ Q) no s
theorem pw_or11 {tA : TT} (ha : PT1 X a tA) : PW1 X (.BoolOp .Or [a] pos) tA := ⟨fun wh pins s σ H Q I h => isTrue_or (mo (ha.run pins s σ H Q I h) fun c s1 e => by
  cases c with
  | false => exact isTrue_or_nil e
  | true => exact e)⟩
theorem pw_or1 {rest : List Expr} {tA tB' : TT} (ha : PT1 X a tA) (hb : PW1 X (.BoolOp .Or (b :: rest) pos) tB') : PW1 X (.BoolOp .Or (a :: b :: rest) pos) (tOr tA tB') := ⟨fun wh pins s σ H Q I h => isTrue_or (mo (ha.run pins s σ H _ I h) fun c s1 ⟨p1, H1, z1, I1, q1⟩ => by
  cases c with
  | true => exact ⟨p1, H1, z1, I1, q1⟩
  | false => exact mo (hb.run wh p1 s1 σ H1 Q I1 q1) fun _ _ w => w.sub z1)⟩
theorem PW1.pt {t : TT} (h : PW1 X e t) : PT1 X e t := ⟨fun pins s σ H Q I q => h.run _ pins s σ H Q I q⟩

theorem pa_nil1 : PA1 X [] tNil := ⟨fun _ pins _ _ H Q I h => Calls.spliced_nil ⟨pins, [], H, .refl _, I, .nil, h⟩⟩
theorem pa_cons1 (ha : PE1 X e te) (hr : PA1 X es t) (hs : starEach (e :: es) X.env = (false, eval e X.env) :: starEach es X.env := by rfl) : PA1 X (e :: es) (tCons te t) := by
  refine ⟨fun pos pins s σ H Q I h => ?_⟩
  rw [hs]
  show wpAny _ _ (spliced ((false, eval e X.env) :: backTo pos (starEach es X.env))) _ _ s
  refine Calls.spliced_cons (mo (ha.run pins s σ H _ I h) fun u s1 ⟨p1, x, H1, z1, I1, r1, q1⟩ => ?_)
  exact mo (hr.run pos p1 s1 σ H1 _ I1 q1) fun us s2 ⟨p2, xs, H2, z2, I2, r2, q2⟩ => ⟨p2, x :: xs, H2, z1.trans z2, I2, .cons r1 r2, q2⟩
theorem In1.laid {pins : Pl} {σ : L2.St} {H : Hp} {s : Shared} {D : Addr} {o : HO} {h' : Heap} {t' : Nat} (I : In1 X pins σ H s) (k : ∀ b u, s.heap.get? b = some u → h'.get? b = some u) (hp : s.heap.objs.size ≤ D) (new : ObjOk X.prog X.w (upd H D o) h' D o) : In1 X pins σ (upd H D o) { s with heap := h', toks := t' } :=
  ⟨I.inv.laid k hp new, fun i k a c p fs cl e => I.told i k a c p fs cl e⟩
theorem In1.kept {pins : Pl} {σ : L2.St} {H : Hp} {s : Shared} {h' : Heap} {t' : Nat} (I : In1 X pins σ H s) (k : ∀ b u, s.heap.get? b = some u → h'.get? b = some u) : In1 X pins σ H { s with heap := h', toks := t' } :=
  ⟨I.inv.kept k, fun i k a c p fs cl e => I.told i k a c p fs cl e⟩
theorem pe_tup1 {x1 : Nat} (h : PA1 X es t) : PE1 X (.Tuple es x1 pos) (tTup t) := by
  refine ⟨fun pins s σ H Q I hq => Tuple_ (mo (h.run pos pins s σ H _ I hq) fun us s1 ⟨p1, xs, H1, z1, I1, r, z, q⟩ => ?_)⟩
  refine wpAny_newObj_type ?_ (by show us.toArray.size ≤ sizeLine; rw [List.size_toArray, ← r.length]; exact z)
  have hf : H1 s1.heap.objs.size = none := I1.inv.hok.fresh (Nat.le_refl _)
  exact ⟨p1, .ref s1.heap.objs.size, upd H1 s1.heap.objs.size (.tup xs), z1, In1.laid (t' := s1.toks) I1 (fun b u e => Heap.get?_push_of_some _ e) (Nat.le_refl _) ⟨z, us, r, ⟨_, Heap.get?_push_size _ rfl, rfl, _, rfl⟩⟩, rfl, q _ hf⟩

/-! ### statements -/
theorem ps_asg1 {tg : Expr} {g : TG} (hx : Nox X) (he : PE1 X e te) (hg : PG X tg g) (hs : swapsWithSole [tg] e pos.line X.env = pure false := by rfl) (hw : swappedStores [tg] e X.env = pure none := by rfl)
    (h1 : (assignEach [tg] X.env).map (·.2) = [assign tg X.env] := by rfl) : PS1 X (.Assign [tg] e pos) (tAsg te g) := by
  refine ⟨fun pins s σ H D I h => wpAny_Assign_stores (mo (he.run pins s σ H _ I h) fun v s1 ⟨p1, x, H1, z1, I1, r1, q1⟩ => ?_) hs hw⟩
  rw [h1]
  exact mo (in1_pg hx I1 hg r1 q1) fun _ s2 ⟨_, σ', H', J, q⟩ => ⟨p1, σ', H', z1, J, q⟩
theorem ps_set1 {i : Nat} {x : Str} {pos' : Pos} (hx : Nox X) (hN : X.N.Nodup) (hi : X.N[i]? = some x) (hxl : Loc X.env.scope x) (he : PE1 X e te) (hs : swapsWith e (some (.Name x pos')) pos.line X.env = pure false := by rfl) (hf : X.fn x = true ∨ X.env.scope.names.lookup x = some .local := by first | exact .inl rfl | exact .inr rfl | assumption) :
    PS1 X (.Assign [.Name x pos'] e pos) (tAsg te (gName i)) := by
  refine ⟨fun pins s σ H D I h => wpAny_Assign_Name (mo (he.run pins s σ H _ I h) fun v s1 ⟨p1, y, H1, z1, I1, r1, q1⟩ => ?_) hs⟩
  have st2 : wpAny (Md X.prog X.w) X.A (storeName X.env x v) (fun _ s' => ∃ σ' H', In1 X p1 σ' H' s' ∧ D.nx σ' H') no s1 := by
    refine mo (in1_stepH (A := X.A) (R := fun _ σ' H' _ => D.nx σ' H') I1 (store_ok (s := lulled s1) (Inv.lulled I1.inv) hN hi hxl r1 (fun s2 I2 => ⟨_, H1, I2, q1⟩) hf)) fun _ s2 ⟨_, z⟩ => z
  exact mo st2 fun _ s2 ⟨σ', H', J, q⟩ => ⟨p1, σ', H', z1, J, q⟩
theorem ps_par1 {i j : Nat} {x y : Str} {ta : TA} {px py pt : Pos} {kt k2 : Nat} {pt2 : Pos} (hx : Nox X) (hc : X.calm = true) (hN : X.N.Nodup) (hi : X.N[i]? = some x) (hj : X.N[j]? = some y) (hij : i ≠ j)
    (hxl : X.env.scope.names.lookup x = some .local) (hyl : X.env.scope.names.lookup y = some .local) (ha : PA1 X [a, b] ta) (hw : swappedStores [.Tuple [.Name x px, .Name y py] kt pt] (.Tuple [a, b] k2 pt2) X.env = pure (some [x, y]))
    (hs : swapsWithSole [.Tuple [.Name x px, .Name y py] kt pt] (.Tuple [a, b] k2 pt2) pos.line X.env = pure false := by rfl) : PS1 X (.Assign [.Tuple [.Name x px, .Name y py] kt pt] (.Tuple [a, b] k2 pt2) pos) (tPar i j ta) := by
  refine ⟨fun pins s σ H D I h => ?_⟩
  rw [exec_Assign_arm]
  refine wpAny_bind (wpAny_standAt ?_)
  rw [hs]
  refine wpAny_bind (wpAny_pure ?_)
  rw [if_neg (by decide)]
  refine wpAny_bind (Tuple_ (mo (ha.run _ pins s σ H _ I h) fun us s1 ⟨p1, vs, H1, z1, I1, r1, q1⟩ => ?_))
  obtain ⟨v, w, e1, q1⟩ := q1
  subst e1
  obtain ⟨u1, u2, rfl, rv, rw'⟩ : ∃ u1 u2, us = [u1, u2] ∧ RelV v u1 ∧ RelV w u2 := by
    cases r1 with
    | cons p q =>
      cases q with
      | cons p' q' => cases q'; exact ⟨_, _, rfl, p, p'⟩
  refine wpAny_newObj_type ?_ (by show 2 ≤ sizeLine; decide)
  have I2 : In1 X p1 σ H1 { s1 with heap := s1.heap.push { cls := .type "tuple", data := .seq [u1, u2].toArray } } := In1.kept (t' := s1.toks) I1 fun b o e => Heap.get?_push_of_some _ e
  rw [hw]
  refine wpAny_bind (wpAny_pure ?_)
  -- the rest is plain
  refine mo (in1_stepH (A := X.A) (R := fun f σ' H' _ => f = .next ∧ D.nx σ' H') I2 ?_) fun f s' ⟨_, σ', H', J, ef, q⟩ => by subst ef; exact ⟨p1, σ', H', z1, J, q⟩
  have I3 := Inv.lulled I2.inv
  show wpAny (model X.prog X.w) X.A (do rule "assign.swapped-stores"; let items ← unpackItems (.ref s1.heap.objs.size) 2 none; assignInOrder [fun v => bindName X.env y v, fun v => bindName X.env x v] items.reverse; pure Flow.next) _ _ _
  refine wpAny_bind (wpAny_rule (wpAny_bind (unpackItems_tuple (items := #[u1, u2]) (I.inv.ok.hd hc) (IsTup.new s1.heap _) fun h' hx' => ?_)))
  have I4 := I3.kept (h' := h') (t' := s1.toks) fun b o e => hx' b o (Nat.ne_of_lt (Heap.lt_size e)) e
  show wpAny _ _ (assignInOrder [fun v => bindName X.env y v, fun v => bindName X.env x v] [u2, u1] >>= fun _ => pure Flow.next) _ _ _
  refine wpAny_bind (assignInOrder_cons (wpAny_bindName (store_ok I4 hN hj (.inl hyl) rw' (fun s2 I5 => ?_) (.inr hyl))))
  refine assignInOrder_cons (wpAny_bindName (store_ok I5 hN hi (.inl hxl) rv (fun s3 I6 => assignInOrder_nil (wpAny_pure ?_)) (.inr hxl)))
  rw [List.set_comm _ _ (Ne.symm hij)] at I6
  exact ⟨_, H1, I6, rfl, q1⟩
theorem ps_expr1 (hx : Nox X) (he : PE1 X e te) (hn : ∀ σ H Q, te σ H Q → te σ H fun v H' => v = .non ∧ Q v H') (hs : swapsWith e none pos.line X.env = pure false := by rfl) : PS1 X (.Expr e pos) (tDrop te) := by
  refine ⟨fun pins s σ H D I h => ?_⟩
  rw [exec_Expr X.env e pos I.inv.quiet hs]
  refine wpAny_bind (wpAny_standAt (wpAny_bind (mo (he.run pins s σ H _ I (hn _ _ _ h)) fun v s1 ⟨p1, x, H1, z1, I1, r1, ev, q1⟩ => ?_)))
  subst ev
  cases r1
  have q : SP1 X pins D .next s1 := ⟨p1, σ, H1, z1, I1, q1⟩
  cases e <;> exact wpAny_pure q
/-- a comprehension that lays a list -/
theorem pem_list {elt : Expr} {D : Addr} (hx : Nox X) (he : PE1 X elt te) : PEm X (do let _ ← call (.builtin "list.append") [.ref D, ← eval elt X.env]) (fun σ H Q => te σ H fun y H4 => ∃ acc, H4 D = some (.lst acc) ∧ acc.length < sizeLine ∧ Q (upd H4 D (.lst (acc ++ [y])))) := by
  refine ⟨fun pins s σ H Q I h => wpAny_bind (mo (he.run pins s σ H _ I h) fun u s1 ⟨p1, y, H4, z1, I1, r1, acc, hD, hz, q⟩ => wpAny_bind ?_)⟩
  refine mo (in1_stepH (A := X.A) (R := fun _ σ' H' _ => σ' = σ ∧ Q H') I1 (app_ok (s := lulled s1) (Inv.lulled I1.inv) hD hz r1 fun s' J => ⟨σ, _, J, rfl, q⟩)) fun _ s2 ⟨_, σ', H', J, e, q⟩ => wpAny_pure ⟨p1, H', z1, by subst e; exact J, q⟩
theorem turnq_list (elt target iter : Expr) (ifs : List Expr) (scope : Scope) (pos : Pos) : TurnEq (.ListComp elt [⟨target, iter, ifs, 0⟩] scope pos) target iter ifs (fun acc env => do let _ ← call (.builtin "list.append") [acc, ← eval elt env]) := fun it D env => compTurn_list elt target iter ifs scope pos it (.ref D) env
def tLc1 (wi : TI1) (g : TG) (tt : TT) (te : TE) (vs : List Nat) : TE := tCm wi g tt (fun D σ H Q => te σ H fun y H4 => ∃ acc, H4 D = some (.lst acc) ∧ acc.length < sizeLine ∧ Q (upd H4 D (.lst (acc ++ [y])))) (fun _ => .lst []) vs
theorem pe_lc1 {elt tg iter : Expr} {ifs : List Expr} {scope : Scope} {own : List (Str × Nat)} {wi : TI1} {g : TG} {tt : TT} (hx : Nox X) (hN : X.N.Nodup) (hi : PI1 X tg iter wi) (ok : BlkOk X.N X.env.scope scope own) (hnocell : ∀ y ∈ scope.names, y.2 ≠ .cell)
    (hg : ∀ (s : Shared) (H : Hp) (C : Addr) (cl : List (Str × Addr)) (fp : List Addr), PG (X.blk s H scope (compEnvC scope cl C X.env) fp) tg g) (ht : ∀ (s : Shared) (H : Hp) (C : Addr) (cl : List (Str × Addr)) (fp : List Addr), PTs (X.blk s H scope (compEnvC scope cl C X.env) fp) ifs tt)
    (he : ∀ (s : Shared) (H : Hp) (C : Addr) (cl : List (Str × Addr)) (fp : List Addr), PE1 (X.blk s H scope (compEnvC scope cl C X.env) fp) elt te) (hs : ∀ x, foldedSetIterable iter X.env x = pure x := by intro _; rfl) : PE1 X (.ListComp elt [⟨tg, iter, ifs, 0⟩] scope pos) (tLc1 wi g tt te (own.map (·.2))) := by
  refine ⟨fun pins s σ H Q I h => ?_⟩
  rw [eval_ListComp]
  exact comp1 (emit := fun acc env => do let _ ← call (.builtin "list.append") [acc, ← eval elt env]) (h0 := fun _ => .lst []) (oAcc := { cls := .type "list", data := .seq ([] : List Value).toArray }) hx hN hi ok hnocell rfl (turnq_list elt tg iter ifs scope pos) (by intro _ _ _ _ z; cases z) (fun {A s Q} _ q => wpAny_newObj_type q (by show 0 ≤ sizeLine; decide)) (fun H h D _ e => ⟨Nat.zero_le _, [], 0, .nil, e⟩) rfl hg ht (fun s H C cl fp D => pem_list (fun _ _ z => z) (he s H C cl fp)) hs I h
/-! ### built-ins of a value that the marked machine gives -/
theorem pe_callB1 {id : String} {x : Str} {p : Pos} {r : List V → Hp → VK → Prop} (hx : Nox X) (hc : CallR X (.builtin id) r) (hg : L2.Gl X x) (hm : X.mg x = none) (hv : bootBuiltins x = some (.builtin id)) (ha : PA1 X (e :: es) t) (hn : x ≠ "__name__" := by decide) (hdb : (x == ("__debug__" : Str)) = false := by decide)
    (he : starEach (e :: es) X.env = (false, eval e X.env) :: starEach es X.env := by rfl) (hpl : (backTo pos (starEach es X.env)).any (·.1) = false := by rfl) : PE1 X (.Call (.Name x p) (e :: es) [] pos) (tCB r t) := by
  refine ⟨fun pins s σ H Q I h => ?_⟩
  obtain ⟨mb, h1, h2⟩ := I.inv.mod.blt
  refine wpAny_Call_Name_kw (Calls.Name_function_global I.inv.ok.kind hg (Calls.loadGlobal_builtin (by rw [I.inv.ok.glob]; exact I.inv.mod.glob.keeps I.inv.bk) hm (by rw [I.inv.ok.blt]; exact h1.keeps I.inv.bk) ((h2 x hn).trans hv) ?_) hdb)
  exact PyProof.Rows.callWith_builtin1 (mo (ha.run pos pins s σ H _ I h) fun us s1 ⟨p1, vs, H1, z1, I1, r1, q1⟩ => mo (lift_ep hx I1 (hc p1 _ σ H1 vs us Q (Inv.lulled I1.inv) r1 q1)) fun _ _ w => w.sub z1) he hpl
end
end Gk
/-! The law's call from behind the top, in the marked machine. -/
namespace Gk
open PySem PySem.Spec PyProof.Rows L2
open Sem (wp)

def Top1 (P : Program) (w : World) (outer : List Env) (H : Hp) (s : Shared) (Q : VK) (r : Result) (s' : Shared) : Prop := match r with
  | .ok (.ret u) => (∃ v H', s'.os = s.os ∧ AllBare s'.gens ∧ Un (frs outer) [] H H' s.heap s'.heap ∧ HOk P w H' s'.heap ∧ RelV v u ∧ Q v H') ∧ Alive s'
  | _ => False
theorem alive_of {X : Cx} {pins : Pl} {σ : L2.St} {H : Hp} {s : Shared} (I : In1 X pins σ H s) : Alive s := fun i k a c p fs cl e => by
  obtain ⟨o, ho, g⟩ := I.told i k a c p fs cl e
  exact ⟨o, (I.inv.pin _ (List.mem_append_right _ ho)).1, g⟩
theorem fn_top {P : Program} {w : World} {K : PySem.W.Frag} {mg : Str → Option Value} {base : Heap} {k : Nat} {f : Addr} {name qual : Str} {params : Arguments} {body : List Stmt} {scope : Scope} {dV kV doc pm cdv ct oc : Value} {an od : Option Addr}
    {osl : Array (Option Value)} {N ps : List Str} {sp : Sp} (lk : K.lookup f = some ⟨oc, od, .func (PySem.W.fnOf name qual params body scope dV kV doc pm an cdv ct), osl⟩) (hcd : PySem.W.codeIn K cdv qual = true) (S : FnScope N ps scope) (len : ∀ vs H Q E, sp vs H Q E → vs.length = ps.length)
    (hbody : ∀ (A : Around) (outer : List Env) (s : Shared) (H : Hp) (vs : List V) (Q : VK), Room k (A.deeper (envOfC qual scope s.heap.objs.size f cdv)) → (∀ b ∈ frs outer, b < s.heap.objs.size) → sp vs H Q E0 →
      ∃ t, PSs1 (cxMd P w K mg base N qual scope f cdv A outer s H) body t ∧ t { nx := fun _ H' => Q .non H', rt := Q } (L2.start N vs) H)
    {A : Around} {outer : List Env} {s : Shared} {H : Hp} {args : Args} {us : List Value} {vs : List V} {Q : VK} (hr : Room (k + 1) A) (e0 : Env0 P w K mg base A outer s H) (hg : s.gens = #[]) (hb : BindsTo s (PySem.W.fnOf name qual params body scope dV kV doc pm an cdv ct) args (ps.zip us)) (r : Vals vs us) (hsp : sp vs H Q E0) :
    codeAny (Md P w) A (.call (.ref f) args) (Top1 P w outer H s Q) s := by
  have hl := len _ _ _ _ hsp
  have bk : ∀ b o, base.get? b = some o → s.heap.get? b = some o := fun b o e => (e0.bs b o e).1
  have KX : K.In s.heap := e0.mod.kin.keeps bk
  have hkind : ∀ y ∈ ps.zip us, scope.names.lookup y.1 = some .local ∨ (scope.names.lookup y.1 = some .cell ∧ ((cellsFrom (s.heap.objs.size + 1) scope.names []).lookup y.1).isSome = true) := fun ⟨n, v⟩ hy => by
    rcases S.par n (List.of_mem_zip hy).1 with q | q
    · exact .inl q
    · exact .inr ⟨q, PySem.W.cellsFrom_some _ _ _ (.inl q)⟩
  refine md_function hr.depth (KX _ _ lk) rfl S.co S.gen rfl (PySem.W.codeRec_of KX hcd) (hb _ _ _ _ ?_)
  refine wpAny_newFunctionEnv_cells S.kind hkind fun env he s1 x => ?_
  subst he
  refine ⟨(e0.mod.nolimit.keeps bk).keeps x.toInCall.keep, md_func ?_⟩
  have hfr : ∀ b ∈ frs outer, b < s.heap.objs.size := fun b hb => by
    obtain ⟨_, o, ho, _⟩ := e0.funs.mem hb
    exact Heap.lt_size ho
  obtain ⟨t, ht, hq⟩ := hbody A outer s H vs Q (hr.deeper _) hfr hsp
  have I : Inv (cxMd P w K mg base N qual scope f cdv A outer s H) [] (L2.start N vs) H s1 := Inv.noxed (inv_start (CX := CX0) (E := E0) S hr.hd e0 hl r x)
  have I1 : In1 (cxMd P w K mg base N qual scope f cdv A outer s H) [] (L2.start N vs) H s1 := by
    refine ⟨I, ?_⟩
    obtain ⟨h1, tk, es1, _⟩ := x.done
    intro i k a c p fs cl e
    rw [es1] at e
    have e' : s.gens[i]? = some _ := e
    rw [hg] at e'
    simp at e'
  refine wpAny_mono (ht.run [] s1 (L2.start N vs) H _ I1 hq) (fun fl s' hs => ?_) fun _ _ z => z
  have fin : ∀ {p2 : Pl} {σ' : L2.St} {H' : Hp} {v : V} {u : Value}, In1 (cxMd P w K mg base N qual scope f cdv A outer s H) p2 σ' H' s' → RelV v u → Q v H' → Top1 P w outer H s Q (.ok (.ret u)) s' :=
    fun {p2 σ' H' v u} J rv q => ⟨⟨v, H', J.inv.os, J.inv.bare, J.inv.base, J.inv.hok, rv, q⟩, alive_of J⟩
  cases fl with
  | ret u =>
    obtain ⟨p2, v, σ', H', _, J, rv, q⟩ := hs
    exact fin J rv q
  | next =>
    obtain ⟨p2, σ', H', _, J, q⟩ := hs
    exact fin (v := V.non) (u := Value.none) J rfl q
  | brk =>
    obtain ⟨_, _, _, _, _, q⟩ := hs
    exact False.elim q
  | cont =>
    obtain ⟨_, _, _, _, _, q⟩ := hs
    exact False.elim q

/-- a def's promise at the top, over a base -/
def FnTop (P : Program) (w : World) (K : PySem.W.Frag) (mg : Str → Option Value) (base : Heap) (k : Nat) (f : Addr) (fd : FuncData) (ps : List Str) (sp : Sp) : Prop :=
  ∀ (A : Around) (outer : List Env) (s : Shared) (H : Hp) (args : Args) (us : List Value) (vs : List V) (Q : VK), Room k A → Env0 P w K mg base A outer s H → s.gens = #[] → BindsTo s fd args (ps.zip us) → Vals vs us → sp vs H Q E0 → codeAny (Md P w) A (.call (.ref f) args) (Top1 P w outer H s Q) s
abbrev LawEnd (s1 : Shared) (r : Result) (s' : Shared) : Prop := r = .ok (.ret (.bool true)) ∧ OldK s1.heap s'.heap ∧ s'.os = s1.os ∧ AllBare s'.gens ∧ Alive s'
theorem law_core {P : Program} {w : World} {K : PySem.W.Frag} {mg mb : Str → Option Value} {k : Nat} {fa a : Addr} {fd : FuncData} {x : Str} {sp : Sp} {s1 : Shared} {vs : List Value} {H : Hp}
    (KX : K.In s1.heap) (hns : s1.heap.Ns mainGlobals mg) (hb : s1.heap.Ns builtinsNs mb) (hbb : ∀ x : Str, x ≠ "__name__" → mb x = bootBuiltins x) (hlim : s1.heap.NoLimit) (hg : s1.gens = #[])
    (ha : s1.heap.get? a = some { cls := .type "list", data := .seq vs.toArray }) (hr : Room k callerA)
    (F : ∀ base : Heap, K.In base → base.Ns mainGlobals mg → FnTop P w K mg base k fa fd [x] sp) (hbind : ∀ (s : Shared) (u : Value), BindsTo s fd ⟨[u], []⟩ [(x, u)])
    (hsp : sp [.ref a] H (fun v _ => v = .bl true) E0) (hO : Only H) (hok : HOk P w H s1.heap) (hA : ∀ b, H b ≠ none → b = a) (hK : H a ≠ none → K.lookup a = none) : codeAny (Md P w) callerA (.call (.ref fa) ⟨[.ref a], []⟩) (LawEnd s1) s1 := by
  have dictFree : ∀ {b : Addr} {o : Obj} {es : Array DictEntry} {ep : Nat}, s1.heap.get? b = some o → o.data = .dict es ep → H b = none := fun {b o es ep} e d => by
    cases q : H b with
    | none => rfl
    | some u =>
      have e' : b = a := hA b (by rw [q]; simp)
      subst e'
      rw [ha] at e; cases e
      have d' : Data.seq vs.toArray _ = Data.dict es ep := d
      cases d'
  have nsBase : ∀ {b : Addr} {m : Str → Option Value}, s1.heap.Ns b m → (hidT s1.heap H).Ns b m := fun {b m} ⟨o, es, ep, e, d, r⟩ => ⟨o, es, ep, hidT_get e (dictFree e d), d, r⟩
  have kBase : K.In (hidT s1.heap H) := fun b o e => hidT_get (KX b o e) (by
    cases q : H b with
    | none => rfl
    | some u =>
      have e' : b = a := hA b (by rw [q]; simp)
      subst e'
      rw [hK (by rw [q]; simp)] at e; cases e)
  have M : Mod K mg (hidT s1.heap H) := ⟨kBase, nsBase hns, ⟨mb, nsBase hb, hbb⟩, let ⟨mc, h1, h2⟩ := hlim; ⟨mc, nsBase h1, h2⟩⟩
  have e0 : Env0 P w K mg (hidT s1.heap H) callerA [] s1 H := ⟨rfl, M, fun b o e => of_hidT e, Nat.le_of_eq (hidT_size _ _), trivial, fun b hb => absurd (show b ∈ ([] : List Addr) from hb) (by simp), hok, .of_eq hg⟩
  refine codeAny_mono (F _ kBase (nsBase hns) callerA [] s1 H ⟨[.ref a], []⟩ [.ref a] [.ref a] _ hr e0 hg (hbind s1 (.ref a)) (.cons rfl .nil) hsp) fun r s' h => ?_
  cases r with
  | error e => exact False.elim h
  | ok fl =>
    cases fl with
    | next => exact False.elim h
    | brk => exact False.elim h
    | cont => exact False.elim h
    | ret u =>
      obtain ⟨⟨v, H', os, bare, un, hok', r', q⟩, al⟩ := h
      have q' : v = .bl true := q
      subst q'
      obtain rfl : u = Value.bool true := r'
      refine ⟨rfl, OldK.of_keep fun b o e => ?_, os, bare, al⟩
      cases q : H b with
      | none => exact un.keep b o e q (by intro z; exact absurd (show b ∈ ([] : List Addr) from z) (by simp)) (by simp)
      | some u =>
        rcases hO b with z | ⟨ob, xs, z⟩
        · rw [q] at z; cases z
        · have z2 := un.frzs b ob _ z
          obtain ⟨e1, _⟩ := hok b _ z
          obtain ⟨e2, _⟩ := hok' b _ z2
          rw [e] at e1; cases e1
          exact e2
theorem law_call1 {P : Program} {w : World} {K : PySem.W.Frag} {mg mb : Str → Option Value} {k : Nat} {fa a : Addr} {fd : FuncData} {x : Str} {sp : Sp} {s1 : Shared} {vs : List Value} {ns : List Int}
    (KX : K.In s1.heap) (hns : s1.heap.Ns mainGlobals mg) (hb : s1.heap.Ns builtinsNs mb) (hbb : ∀ x : Str, x ≠ "__name__" → mb x = bootBuiltins x) (hlim : s1.heap.NoLimit) (hg : s1.gens = #[])
    (ha : s1.heap.get? a = some { cls := .type "list", data := .seq vs.toArray }) (hi : IntsAre vs ns) (hl : ns.length ≤ sizeLine) (hr : Room k callerA)
    (F : ∀ base : Heap, K.In base → base.Ns mainGlobals mg → FnTop P w K mg base k fa fd [x] sp) (hbind : ∀ (s : Shared) (u : Value), BindsTo s fd ⟨[u], []⟩ [(x, u)])
    (hsp : ∀ H : Hp, Only H → SqL K H a (ns.map V.int) → sp [.ref a] H (fun v _ => v = .bl true) E0) : codeAny (Md P w) callerA (.call (.ref fa) ⟨[.ref a], []⟩) (LawEnd s1) s1 := by
  have rv := vals_ints hi
  have lenV := hi.length
  cases hk : K.lookup a with
  | some o =>
    have e := KX a o hk
    rw [ha] at e
    cases e
    have O : Only (fun _ => none) := fun _ => .inl rfl
    refine law_core (H := fun _ => none) KX hns hb hbb hlim hg ha hr F hbind (hsp _ O (.inr ⟨_, vs.toArray, _, hk, rfl, rfl, rfl, by rw [List.size_toArray, lenV]; exact hl, by simpa using rv⟩)) O (fun b u z => by have z' : (none : Option HO) = some u := z; cases z') (fun b z => absurd rfl z) fun z => absurd rfl z
  | none =>
    have O : Only (fun b => if b = a then some (.frz { cls := .type "list", data := .seq vs.toArray } (.lst (ns.map V.int))) else none) := fun b => by
      by_cases hb : b = a
      · exact .inr ⟨_, _, if_pos hb⟩
      · exact .inl (if_neg hb)
    refine law_core KX hns hb hbb hlim hg ha hr F hbind (hsp _ O (.inl (.inr ⟨{ cls := .type "list", data := .seq vs.toArray }, if_pos rfl⟩))) O (fun b u z => ?_) (fun b z => ?_) fun _ => hk
    · by_cases hb : b = a
      · have z' := (if_pos hb).symm.trans z
        cases z'
        subst hb
        exact ⟨ha, by rw [List.length_map]; exact hl, vs, _, rv, ha⟩
      · have z' := (if_neg hb).symm.trans z
        cases z'
    · by_cases hb : b = a
      · exact hb
      · exact absurd (if_neg hb) z
/-- the goal that the head leaves, from the law's promise -/
theorem walk1_of {l : PySem.W.OpenLaw} {n k : Nat} {q : Program} {loose : List Str} {XP : (Str → Option Value) → Heap → Prop} {YP : World → Heap → Prop} {d : DefRec} {K : Params → PySem.W.Frag} {sp : World → Sp} {x : Str}
    (hn : l.most = some n) (hn2 : n ≤ sizeLine) (hdf : d.params.defaults = []) (hr : Room k callerA)
    (hY : ∀ (w : World) (h : Heap), YP w h → (K w.params).In h)
    (F : ∀ (w : World) (mg : Str → Option Value) (fa : Addr) (h : Heap), (K w.params).In h → h.Ns mainGlobals mg → mg d.name = some (.ref fa) →
      ∃ fd : FuncData, (∀ (s : Shared) (u : Value), BindsTo s fd ⟨[u], []⟩ [(x, u)]) ∧ ∀ base : Heap, (K w.params).In base → base.Ns mainGlobals mg → FnTop l.prog w (K w.params) mg base k fa fd [x] (sp w))
    (hsp : ∀ (w : World) (H : Hp) (a : Addr) (ns : List Int), ns.length ≤ n → Only H → SqL (K w.params) H a (ns.map V.int) → sp w [.ref a] H (fun v _ => v = .bl true) E0) :
    Walk1 q loose XP YP l.row.toRowW d [] := by
  intro w s0 s1 mg mb G Y fa o pm cd doc dV kV ho hd hcd hD hmg hg args vals as hpre hlay hrd hwl hlo
  obtain ⟨a, vs, ns, rfl, rfl, hobj, hints, hlen⟩ := Att.script_of hn hpre hwl
  have KX := hY w _ Y
  obtain ⟨fd, hb, hF⟩ := F w mg fa _ KX G.T.g hmg
  refine wpAny_call (codeAny_mono (law_call1 KX G.T.g G.T.b G.T.builtins G.T.nolimit hg hobj hints (Nat.le_trans hlen hn2) hr hF hb (fun H hO hS => hsp w H a ns hlen hO hS)) fun r s' hq => ?_)
  obtain ⟨rfl, h2, h3, h4, h5⟩ := hq
  exact ⟨⟨.inl ⟨.bool true, .bool true, [], rfl, fun _ => rfl, .bool true, Att.post_true l _, fun _ => ⟨List.Pairwise.nil, fun _ hm => (nomatch hm)⟩⟩, h2, h3, h4⟩, h5⟩
/-- the same where the written part comes with the facts -/
theorem walk1_ofE {l : PySem.W.OpenLaw} {n k : Nat} {q : Program} {loose : List Str} {XP : (Str → Option Value) → Heap → Prop} {YP : World → Heap → Prop} {d : DefRec} {x : Str}
    (hn : l.most = some n) (hn2 : n ≤ sizeLine) (hdf : d.params.defaults = []) (hr : Room k callerA)
    (F : ∀ (w : World) (mg : Str → Option Value) (fa : Addr) (h : Heap), YP w h → h.Ns mainGlobals mg → mg d.name = some (.ref fa) →
      ∃ (K : PySem.W.Frag) (fd : FuncData) (sp : Sp), K.In h ∧ (∀ (s : Shared) (u : Value), BindsTo s fd ⟨[u], []⟩ [(x, u)]) ∧
        (∀ (H : Hp) (a : Addr) (ns : List Int), ns.length ≤ n → Only H → SqL K H a (ns.map V.int) → sp [.ref a] H (fun v _ => v = .bl true) E0) ∧
        ∀ base : Heap, K.In base → base.Ns mainGlobals mg → FnTop l.prog w K mg base k fa fd [x] sp) :
    Walk1 q loose XP YP l.row.toRowW d [] := by
  intro w s0 s1 mg mb G Y fa o pm cd doc dV kV ho hd hcd hD hmg hg args vals as hpre hlay hrd hwl hlo
  obtain ⟨a, vs, ns, rfl, rfl, hobj, hints, hlen⟩ := Att.script_of hn hpre hwl
  obtain ⟨K, fd, sp, KX, hb, hsp, hF⟩ := F w mg fa _ Y G.T.g hmg
  refine wpAny_call (codeAny_mono (law_call1 KX G.T.g G.T.b G.T.builtins G.T.nolimit hg hobj hints (Nat.le_trans hlen hn2) hr hF hb (fun H hO hS => hsp H a ns hlen hO hS)) fun r s' hq => ?_)
  obtain ⟨rfl, h2, h3, h4, h5⟩ := hq
  exact ⟨⟨.inl ⟨.bool true, .bool true, [], rfl, fun _ => rfl, .bool true, Att.post_true l _, fun _ => ⟨List.Pairwise.nil, fun _ hm => (nomatch hm)⟩⟩, h2, h3, h4⟩, h5⟩
end Gk
/-! The head by one kernel run, the walk in the marked machine. -/
namespace Gk
open PySem PySem.W PySem.Calls PyProof.Rows HandSHeadRun
theorem head1 {r : OpenRow} {q : Program} {H : Hook} {ob : SharedT → H.α} {M : Nat} {loose : List PySem.Str} {d : DefRec} {kwd : List (PySem.Str × PySem.Expr)} (ho : ∀ s : SharedT, ob s = H.obs s.abs)
    (e : opening r.prog = plainProg r.prog.main.scope.names) (f : ∀ s, fenceModules? r.prog s = some s) (run : ∀ w, RunEq r q H ob M loose w)
    (hdef : defOf q r.name = some (d, kwd)) (hp : r.prog.theDef r.name = some (d.params, d.body, d.scope)) (hk : kwWritten? d.params.kwonlyargs d.params.kw_defaults = some kwd)
    (hwr : (!r.writes || r.records.isEmpty) = true) (k1 : r.wellSaid = true) (ok : (chainsOk q && opensWell r.prog && (frees r.toRowW && r.within.isEmpty)) = true) (hb : r.prog.bare) (hw : r.toRowW.promised)
    (walk : Walk1 q loose (XL q []) H.says r.toRowW d kwd) : r.Holds := by
  have left : LeftO r.prog q loose (fun s => xlAt q [] s && recOk r.toRowW.records s) H.obs H.val (M + 600) true :=
    left_one (M := M) e (Nat.ble_eq_true_of_le (by omega)) f (Nat.ble_eq_true_of_le (by omega)) fun w os => by
      have z := run w os
      rw [show ob = fun s => H.obs s.abs from funext ho] at z
      simp only [endQ_eq, seenQ_eq]
      exact z
  exact holds1 (XP := XL q []) (YP := H.says) left H.of H.keeps (fun s z => xl_of s (Bool.and_eq_true_iff.mp z).1) XL.keeps hdef hp hk (fun s z => recFacts_of (Bool.and_eq_true_iff.mp z).2) hwr k1 ok hb hw walk
end Gk
/-! The program's text by place; the plain defs on numbers. -/
namespace Tn
open PySem PySem.Spec PyProof.Rows L2
def top (i : Nat) : Stmt := PySem.Challenge.pw_turndeal_k78_whole_tallies_over_whole_ro.main.body.getD i (.Pass ⟨0, 0, 0, 0⟩)
abbrev sDiv : Stmt := top 8
abbrev sFac : Stmt := top 9
abbrev FnP (K : PySem.W.Frag) (x : Str) (st : Stmt) (f : Addr) (fd : FuncData) : Prop := FunD K x x (defArgs st) (defBody st) (defScope st) [] [] f fd
theorem scDiv : FnScope ["one", "other"] ["one", "other"] (defScope sDiv) := ⟨rfl, rfl, rfl, by decide +kernel, rfl, by decide +kernel, by decide +kernel⟩
/-- divisor(a, b) of two numbers -/
def spDiv : Sp := fun vs H Q _ => ∃ a b : Nat, vs = [.int a, .int b] ∧ Q (.int (Nat.gcd b a : Nat)) H
abbrev rGt0 : R2 := rI0 fun i j => .bl (decide (j < i))
abbrev rMod0 : R2 := rI (fun _ j => 0 < j) fun i j => .int (i % j)
def t_div : TS := tSeq (tWhile (tTest (tOp rGt0 (tVar 1) (tC (.int 0)))) (tPar 0 1 (tCons (tVar 1) (tCons (tOp rMod0 (tVar 0) (tVar 1)) tNil)))) (tRet (tVar 0))
theorem ownx {M : Model} {A : Around} {env : Env} : PassesOwn M A env fun _ _ => False := fun _ _ z => z.elim
theorem pure_div (vs : List V) (H : Hp) (Q : VK) (E : XK) (h : spDiv vs H Q E) : t_div { nx := fun _ H' => Q .non H', rt := Q } (L2.start ["one", "other"] vs) H := by
  obtain ⟨a, b, rfl, hQ⟩ := h
  refine while_by (fun σ H' => H' = H ∧ ∃ x y : Nat, σ = [some (.int x), some (.int y)] ∧ Nat.gcd y x = Nat.gcd b a) (fun σ _ => match σ with | [_, some (.int y)] => y.toNat | _ => 0) ⟨rfl, a, b, rfl, rfl⟩ ?_ ?_
  · rintro σ H' ⟨rfl, x, y, rfl, hg⟩
    refine ⟨_, rfl, _, _, rfl, rfl, _, rfl, ?_⟩
    by_cases hy : 0 < y
    · rw [show decide ((0 : Int) < (y : Int)) = true from decide_eq_true (by omega)]
      dsimp only
      rw [if_pos rfl]
      refine ⟨_, rfl, _, rfl, _, rfl, _, _, rfl, rfl, by omega, _, _, rfl, ?_⟩
      refine ⟨⟨rfl, y, x % y, rfl, ?_⟩, ?_⟩
      · rw [← hg, Nat.gcd_rec y x]
      · show (((x : Int) % (y : Int))).toNat < ((y : Int)).toNat
        have := Nat.mod_lt x hy
        omega
    · rw [show decide ((0 : Int) < (y : Int)) = false from decide_eq_false (by omega)]
      dsimp only
      rw [if_neg (by decide)]
      have : y = 0 := by omega
      subst this
      refine ⟨_, rfl, ?_⟩
      rw [Nat.gcd_zero_left] at hg
      show Q (.int (x : Int)) _
      rw [hg]; exact hQ
  · intro σ H Q Q' k h
    obtain ⟨x, e1, i, j, e3, e4, b, e5, h3⟩ := h
    exact ⟨x, e1, i, j, e3, e4, b, e5, k _ _ h3⟩
section
variable {P : Program} {w : World} {K : PySem.W.Frag} {mg : Str → Option Value} {base : Heap} {f : Addr} {fd : FuncData}
theorem ok_div (F : FnP K "divisor" sDiv f fd) : FnOk P w K mg base CX0 1 f fd ["one", "other"] spDiv := by
  refine F.ok scDiv (fun vs H Q E h => ?_) (fun cdv A outer s H vs Q E hr h => ⟨t_div, PSs.nox ?_, pure_div vs H Q E h⟩)
  · obtain ⟨a, b, rfl, _⟩ := h
    rfl
  · exact pss_cons (ps_while ownx (pt_cmpR op_gt (pv 1) pe_int (nomark _)) (pss_one (ps_par (i := 0) (j := 1) rfl scDiv.nd rfl rfl (by decide) rfl rfl (pa_cons (pv 1) (pa_cons (pe_op op_mod (pv 0) (pv 1)) pa_nil)) (by rfl)))) (pss_one (ps_ret (pv 0)))
end
end Tn
/-! The law's bag: _law_bag, _law_pull, _law_of. -/
namespace Pt
open PySem
/-- a short text of plain signs -/
def GoodS (s : Str) : Prop := s.length ≤ 100 ∧ ∀ c ∈ s.cps.toList, c < 1114112
end Pt
namespace Tn
open PySem PySem.Spec PyProof.Rows L2
abbrev sBag : Stmt := top 30
abbrev sPull : Stmt := top 31
abbrev sOf : Stmt := top 32
theorem scBag : FnScope ["_law_script", "_law_salt", "_law_cell"] ["_law_script"] (defScope sBag) := ⟨rfl, rfl, rfl, by decide +kernel, rfl, by decide +kernel, by decide +kernel⟩
theorem scPull : FnScope ["_law_bag_here", "_law_amount", "_law_cell", "_law_got", "_law_seed"] ["_law_bag_here", "_law_amount"] (defScope sPull) := ⟨rfl, rfl, rfl, by decide +kernel, rfl, by decide +kernel, by decide +kernel⟩
theorem scOf : FnScope ["_law_bag_here", "_law_things"] ["_law_bag_here", "_law_things"] (defScope sOf) := ⟨rfl, rfl, rfl, by decide +kernel, rfl, by decide +kernel, by decide +kernel⟩
/-- a bag: the cells, the place, what is left of a great number, the seed -/
def Bag (c : Addr) (H : Hp) (b : Addr) : Prop := ∃ (ns : List Int) (pos big seed : Nat), c ≠ b ∧ H c = some (.lst (ns.map V.int)) ∧ H b = some (.lst [.ref c, .int pos, .int big, .int seed]) ∧ seed < 2147483647
/-- all but b stands -/
def Exb (b : Addr) (H H' : Hp) : Prop := ∀ a o, a ≠ b → H a = some o → H' a = some o
theorem Exb.refl (b : Addr) (H : Hp) : Exb b H H := fun _ _ _ h => h
theorem Exb.trans {b : Addr} {H H1 H2 : Hp} (x : Exb b H H1) (y : Exb b H1 H2) : Exb b H H2 := fun a o n h => y a o n (x a o n h)
theorem Exb.upd {b : Addr} {H : Hp} {o : HO} : Exb b H (upd H b o) := fun a u n h => by rw [upd_ne n]; exact h
theorem Exb.new {b p : Addr} {H : Hp} {o : HO} (h : H p = none) : Exb b H (L2.upd H p o) := fun a u n e => by rw [upd_ne (ne_of_none e h)]; exact e
theorem Bag.new {c b p : Addr} {H : Hp} {o : HO} (h : H p = none) (B : Bag c H b) : Bag c (L2.upd H p o) b := by
  obtain ⟨ns, pos, big, seed, n, hc, hb, hs⟩ := B
  exact ⟨ns, pos, big, seed, n, by rw [upd_ne (ne_of_none hc h)]; exact hc, by rw [upd_ne (ne_of_none hb h)]; exact hb, hs⟩
theorem cut_ints (ns : List Int) (lo hi : Option Int) : ∃ ms : List Int, cutV (ns.map V.int) lo hi = ms.map V.int := by
  unfold cutV
  exact ⟨_, by rw [← List.map_drop, ← List.map_take]⟩
theorem seedMod (i : Int) : ∃ n : Nat, n < 2147483647 ∧ i % 2147483647 = (n : Int) :=
  ⟨(i % 2147483647).toNat, by have := Int.emod_lt_of_pos i (show (0 : Int) < 2147483647 by decide); have := Int.emod_nonneg i (show (2147483647 : Int) ≠ 0 by decide); omega, by have := Int.emod_nonneg i (show (2147483647 : Int) ≠ 0 by decide); omega⟩
def spBag (K : PySem.W.Frag) : Sp := fun vs H Q _ => ∃ (a : Addr) (ns : List Int), vs = [.ref a] ∧ SqL K H a (ns.map V.int) ∧ ∀ c b H', H b = none → H c = none → Same H H' → Bag c H' b → Q (.ref b) H'
def spPull : Sp := fun vs H Q _ => ∃ (b c : Addr) (n : Nat), vs = [.ref b, .int n] ∧ Bag c H b ∧ 0 < n ∧ n ≤ 10 ^ 18 ∧ ∀ (r : Nat) H', r < n → Exb b H H' → Bag c H' b → Q (.int r) H'
/-- one of some things -/
def spOf : Sp := fun vs H Q _ => ∃ (b c : Addr) (x : V), vs = [.ref b, x] ∧ Bag c H b ∧ 
  ((∃ a xs, x = .ref a ∧ a ≠ b ∧ H a = some (.lst xs) ∧ 0 < xs.length ∧ xs.length ≤ 1000 ∧ ∀ (r : Nat) v H', xs[r]? = some v → Exb b H H' → Bag c H' b → Q v H') ∨
   (∃ z : Str, x = .str z ∧ 0 < z.length ∧ z.length ≤ 1000 ∧ ∀ (ch : Nat) H', ch ∈ z.cps.toList → Exb b H H' → Bag c H' b → Q (.str ⟨#[ch]⟩) H'))
section
variable {P : Program} {w : World} {K : PySem.W.Frag} {mg : Str → Option Value} {base : Heap} {f fPull : Addr} {fd fdPull : FuncData}
theorem ok_bag (F : FnP K "_law_bag" sBag f fd) (gList : mg "list" = none) : FnOk P w K mg base CX0 1 f fd ["_law_script"] (spBag K) := by
  refine F.ok scBag (fun vs H Q E h => ?_) (fun cdv A outer s H vs Q E hr h => ⟨_, PSs.nox (pss_cons (ps_set (i := 1) scBag.nd rfl (Or.inl rfl) pe_int)
    (pss_cons (ps_for ownx rfl (pi_list (pe_slice sl_list (pv 0) po_none (po_some pe_int))) (pg_name (i := 2) scBag.nd rfl (Or.inl rfl))
      (pss_one (ps_set (i := 1) scBag.nd rfl (Or.inl rfl) (pe_op op_mod (pe_op op_add (pe_op op_add (pe_op op_mul (pv 1) pe_int) (pe_op op_mod (pv 2) pe_int)) pe_int) pe_int))))
    (pss_one (ps_ret (pe_lst (pa_cons (pe_callTy call_list_of (by rfl) gList (by decide +kernel) (pa_cons (pe_slice sl_list (pv 0) po_none (po_some pe_int)) pa_nil)) (pa_cons pe_int (pa_cons pe_int (pa_cons (pv 1) pa_nil))))))))), ?_⟩)
  · obtain ⟨a, ns, rfl, _⟩ := h
    rfl
  · obtain ⟨a, ns, rfl, hs, hQ⟩ := h
    obtain ⟨ms, hms⟩ := cut_ints ns none (some 63)
    refine ⟨_, rfl, _, rfl, a, _, rfl, hs, fun p hp => ⟨p, rfl, ⟨_, Evl.sq_of upd_same⟩, ?_⟩⟩
    have key := seedMod
    refine for_list (xs := ms.map V.int) (fun i σ H' => H' = upd H p (.lst (ms.map V.int)) ∧ ∃ (salt : Nat) (c : Option V), salt < 2147483647 ∧ σ = [some (.ref a), some (.int salt), c]) ⟨by rw [hms], 9497, none, by decide, rfl⟩ ?_ ?_ ?_
    · rintro i σ H' _ ⟨rfl, _⟩
      exact Evl.sq_of upd_same
    · rintro i x σ H' hx ⟨rfl, salt, c, hsalt, rfl⟩
      obtain ⟨m, _, rfl⟩ : ∃ m, ms[i]? = some m ∧ V.int m = x := by rw [List.getElem?_map] at hx; exact Option.map_eq_some_iff.mp hx
      refine ⟨_, rfl, _, _, rfl, rfl, .inr ⟨by decide, by decide⟩, _, rfl, _, _, rfl, rfl, (by show (0 : Int) < 2147483563; decide), _, _, rfl, rfl, _, _, rfl, rfl, _, _, rfl, rfl, (by show (0 : Int) < 2147483647; decide), ?_⟩
      obtain ⟨n, hn, e⟩ := key ((salt : Int) * 40014 + m % 2147483563 + 11)
      exact ⟨rfl, n, some (V.int m), hn, by rw [← e]; rfl⟩
    · rintro σ H' ⟨rfl, salt, c, hsalt, rfl⟩
      refine ⟨_, rfl, _, rfl, a, _, rfl, (Same.seq (Evl.Ex.new hp) hs), fun q hq => ⟨q, _, rfl, .inl (Evl.sq_of upd_same), fun l hl => ⟨_, rfl, ?_⟩⟩⟩
      refine ⟨by show 4 ≤ sizeLine; decide, fun b hb => hQ l b _ ?_ ?_ ?_ ?_⟩
      · exact Evl.fresh_back (Evl.Ex.new hp) (Evl.fresh_back (Evl.Ex.new hq) (Evl.fresh_back (Evl.Ex.new hl) hb))
      · exact Evl.fresh_back (Evl.Ex.new hp) (Evl.fresh_back (Evl.Ex.new hq) hl)
      · exact Evl.Ex.trans (Evl.Ex.new hp) (Evl.Ex.trans (Evl.Ex.new hq) (Evl.Ex.trans (Evl.Ex.new hl) (Evl.Ex.new hb)))
      · have hlb : l ≠ b := ne_of_none upd_same hb
        exact ⟨ms, 0, 0, salt, hlb, by rw [upd_ne hlb, upd_same, hms], upd_same, hsalt⟩
theorem ok_pull (F : FnP K "_law_pull" sPull f fd) (gLen : mg "len" = none) : FnOk P w K mg base CX0 1 f fd ["_law_bag_here", "_law_amount"] spPull := by
  refine F.ok scPull (fun vs H Q E h => ?_) (fun cdv A outer s H vs Q E hr h => ⟨_, PSs.nox (Evl.pss_cut (ps_if (pw_and (pt_cmpR op_eq (pe_ix ix_list (pv 0) pe_int fun _ _ => rfl) pe_int (nomark _)) (pw_and1 (pt_cmpR op_lt (pe_ix ix_list (pv 0) pe_int fun _ _ => rfl) (pe_callB call_len (by rfl) gLen boot_len (pa_cons (pe_ix ix_list (pv 0) pe_int fun _ _ => rfl) pa_nil)) (nomark _)))).pt
      (pss_cons (ps_set (i := 2) scPull.nd rfl (Or.inl rfl) (pe_ix ix_list (pe_ix ix_list (pv 0) pe_int fun _ _ => rfl) (pe_ix ix_list (pv 0) pe_int fun _ _ => rfl) fun _ _ => rfl))
      (pss_cons (ps_asg (pe_op op_add (pe_ix ix_list (pv 0) pe_int fun _ _ => rfl) pe_int) (pg_sub (pv 0) pe_int set_list))
      (pss_one (ps_if (pt_cmpR op_ge (pv 2) (pe_op op_pow pe_int pe_int) (nomark _)) (pss_one (ps_asg (pv 2) (pg_sub (pv 0) pe_int set_list)))
        (pss_one (ps_asg (pe_op op_mod (pe_op op_add (pe_op op_add (pe_op op_mul (pe_ix ix_list (pv 0) pe_int fun _ _ => rfl) pe_int) (pe_op op_mul (pe_op op_mod (pv 2) pe_int) pe_int)) pe_int) pe_int) (pg_sub (pv 0) pe_int set_list)))))))
      pss_nil)
    (pss_cons (ps_if (pt_cmpR op_gt (pe_ix ix_list (pv 0) pe_int fun _ _ => rfl) pe_int (nomark _))
      (pss_cons (ps_set (i := 3) scPull.nd rfl (Or.inl rfl) (pe_op op_mod (pe_ix ix_list (pv 0) pe_int fun _ _ => rfl) (pv 1)))
      (pss_cons (ps_asg (pe_op op_fdivW (pe_ix ix_list (pv 0) pe_int fun _ _ => rfl) (pv 1)) (pg_sub (pv 0) pe_int set_list))
      (pss_one (ps_ret (pv 3)))))
      pss_nil)
    (pss_cons (ps_set (i := 4) scPull.nd rfl (Or.inl rfl) (pe_ix ix_list (pv 0) pe_int fun _ _ => rfl))
    (pss_cons (ps_asg (pe_op op_mod (pe_op op_add (pe_op op_add (pe_op op_mul (pv 4) (pv 4)) (pe_op op_mul (pv 4) pe_int)) pe_int) pe_int) (pg_sub (pv 0) pe_int set_list))
    (pss_one (ps_ret (pe_op op_mod (pe_op op_add (pe_op op_fdiv (pe_ix ix_list (pv 0) pe_int fun _ _ => rfl) pe_int) (pe_op op_mul (pe_op op_mod (pe_ix ix_list (pv 0) pe_int fun _ _ => rfl) pe_int) pe_int)) (pv 1)))))))), ?_⟩)
  · obtain ⟨b, _, n, rfl, _⟩ := h
    rfl
  · obtain ⟨b, c, n, rfl, ⟨ns, pos, big, seed, hcb, hc, hb, hs⟩, hn, hn2, hQ⟩ := h
    refine ⟨fun σ H' => Exb b H H' ∧ Bag c H' b ∧ ∃ cl : Option V, σ = [some (.ref b), some (.int n), cl, none, none], ?_, ?_⟩
    · have skip : Exb b H H ∧ Bag c H b ∧ ∃ cl : Option V, L2.start ["_law_bag_here", "_law_amount", "_law_cell", "_law_got", "_law_seed"] [V.ref b, V.int n] = [some (.ref b), some (.int n), cl, none, none] := ⟨Exb.refl b H, ⟨ns, pos, big, seed, hcb, hc, hb, hs⟩, none, rfl⟩
      refine ⟨_, rfl, b, _, 2, _, rfl, rfl, Evl.sq_of hb, rfl, rfl, _, rfl, ite2 (fun h0 => ?_) fun h0 => iteF skip⟩
      refine ⟨_, rfl, b, _, 1, _, rfl, rfl, Evl.sq_of hb, rfl, _, rfl, b, _, 0, _, rfl, rfl, Evl.sq_of hb, rfl, .ref c, _, rfl, .inl ⟨_, Evl.sq_of hc, rfl⟩, _, _, rfl, rfl, _, rfl, ite2 (fun h1 => ?_) fun h1 => skip⟩
      have hpos : pos < ns.length := by
        have := of_decide_eq_true h1
        rw [List.length_map] at this
        omega
      have hcell : atI (ns.map V.int) (pos : Int) = some (V.int ns[pos]) := atI_nat (by rw [List.getElem?_map, List.getElem?_eq_getElem hpos]; rfl)
      generalize ns[pos] = cell at hcell
      have hc' : ∀ o, (upd H b o) c = some (.lst (ns.map V.int)) := fun o => by rw [upd_ne hcb]; exact hc
      have hc2 : ∀ o o', (upd (upd H b o) b o') c = some (.lst (ns.map V.int)) := fun o o' => by rw [upd_ne hcb]; exact hc' o
      have hE : ∀ o o', Exb b H (upd (upd H b o) b o') := fun o o' => Exb.upd.trans Exb.upd
      refine ⟨_, rfl, b, _, 0, _, rfl, rfl, Evl.sq_of hb, rfl, _, rfl, b, _, 1, _, rfl, rfl, Evl.sq_of hb, rfl, c, _, _, _, rfl, rfl, Evl.sq_of hc, hcell, ?_⟩
      refine ⟨_, rfl, b, _, 1, _, rfl, rfl, Evl.sq_of hb, rfl, _, _, rfl, rfl, _, rfl, b, _, 1, 1, rfl, rfl, hb, rfl, ?_⟩
      refine ⟨_, rfl, _, _, rfl, rfl, ⟨by decide, by decide, by decide⟩, _, _, rfl, rfl, _, rfl, ite2 (fun h2 => ?_) fun h2 => ?_⟩
      · refine ⟨_, rfl, _, rfl, b, _, 2, 2, rfl, rfl, upd_same, rfl, hE _ _, ?_, some (V.int cell), rfl⟩
        have h3 : (0 : Int) ≤ cell := Int.le_trans (by decide) (of_decide_eq_true h2)
        obtain ⟨m, rfl⟩ := Int.eq_ofNat_of_zero_le h3
        exact ⟨ns, pos + 1, m, seed, hcb, hc2 _ _, upd_same, hs⟩
      · refine ⟨_, rfl, b, _, 3, _, rfl, rfl, Evl.sq_of upd_same, rfl, _, _, rfl, rfl, .inr ⟨by decide, by decide⟩, _, rfl, _, _, rfl, rfl, (by show (0 : Int) < 2147483563; decide), _, _, rfl, rfl, .inr ⟨by decide, by decide⟩, _, _, rfl, rfl, _, _, rfl, rfl, _, _, rfl, rfl, (by show (0 : Int) < 2147483647; decide), ?_⟩
        refine ⟨_, rfl, b, _, 3, 3, rfl, rfl, upd_same, rfl, hE _ _, ?_, some (V.int cell), rfl⟩
        obtain ⟨m, hm, e⟩ := seedMod ((seed : Int) * 39373 + cell % 2147483563 * 40692 + 3)
        refine ⟨ns, pos + 1, big, m, hcb, hc2 _ _, ?_, hm⟩
        rw [upd_same, ← e]
        rfl
    · rintro σ H' ⟨hx, ⟨ns, pos, big, seed, hcb, hc, hb, hs⟩, cl, rfl⟩
      have hc' : ∀ o, (upd H' b o) c = some (.lst (ns.map V.int)) := fun o => by rw [upd_ne hcb]; exact hc
      refine ⟨_, rfl, b, _, 2, _, rfl, rfl, Evl.sq_of hb, rfl, _, _, rfl, rfl, _, rfl, ite2 (fun h0 => ?_) fun h0 => ?_⟩
      · refine ⟨_, rfl, b, _, 2, _, rfl, rfl, Evl.sq_of hb, rfl, _, rfl, _, _, rfl, rfl, (by show (0 : Int) < (n : Int); omega), ?_⟩
        refine ⟨_, rfl, b, _, 2, _, rfl, rfl, Evl.sq_of hb, rfl, _, rfl, _, _, rfl, rfl, wide_div (b := 60) (by show (0 : Int) < (n : Int); omega) (by show ((n : Int)).natAbs < 2 ^ 60; omega) (by decide) (by decide), _, rfl, b, _, 2, 2, rfl, rfl, hb, rfl, ?_⟩
        exact ⟨_, rfl, hQ (big % n) _ (Nat.mod_lt _ hn) (hx.trans Exb.upd) ⟨ns, pos, big / n, seed, hcb, hc' _, upd_same, hs⟩⟩
      · refine ⟨_, rfl, b, _, 3, _, rfl, rfl, Evl.sq_of hb, rfl, ?_⟩
        refine ⟨_, rfl, _, rfl, _, _, rfl, rfl, .inl ⟨?_, ?_⟩, _, rfl, _, _, rfl, rfl, .inr ⟨by decide, by decide⟩, _, _, rfl, rfl, _, _, rfl, rfl, _, _, rfl, rfl, (by show (0 : Int) < 2147483647; decide), ?_⟩
        · show -(2 ^ 64 : Int) < (seed : Int); omega
        · show (seed : Int) < 2 ^ 64; omega
        obtain ⟨m, hm, e⟩ := seedMod ((seed : Int) * (seed : Int) + (seed : Int) * 48271 + 1442695041)
        refine ⟨_, rfl, b, _, 3, 3, rfl, rfl, hb, rfl, ?_⟩
        refine ⟨_, rfl, b, _, 3, _, rfl, rfl, Evl.sq_of upd_same, rfl, _, _, rfl, rfl, ⟨by decide, by decide⟩, _, rfl, b, _, 3, _, rfl, rfl, Evl.sq_of upd_same, rfl, _, _, rfl, rfl, (by show (0 : Int) < 8209; decide), _, _, rfl, rfl, .inr ⟨by decide, by decide⟩, _, _, rfl, rfl, _, rfl, _, _, rfl, rfl, (by show (0 : Int) < (n : Int); omega), ?_⟩
        dsimp only
        rw [e]
        exact hQ ((m / 83 + m % 8209 * 53) % n) _ (Nat.mod_lt _ hn) (hx.trans Exb.upd) ⟨ns, pos, big, m, hcb, hc' _, upd_same, hm⟩
theorem ok_of (F : FnP K "_law_of" sOf f fd) (FP : FnP K "_law_pull" sPull fPull fdPull) (gLen : mg "len" = none) (gPull : mg "_law_pull" = some (.ref fPull)) : FnOk P w K mg base CX0 2 f fd ["_law_bag_here", "_law_things"] spOf := by
  have GP : FnOk P w K mg base CX0 1 fPull fdPull ["_law_bag_here", "_law_amount"] spPull := ok_pull FP gLen
  have bP : Binds K fdPull ["_law_bag_here", "_law_amount"] [] := FP.bindsN fun _ _ _ _ _ _ us hl => match us, hl with | [_, _], _ => rfl
  refine F.ok scOf (fun vs H Q E h => ?_) (fun cdv A outer s H vs Q E hr h => ⟨_, PSs.nox (pss_one (ps_ret (pe_ix ix_seq (pv 1) (pe_call GP hr rfl gPull FP.kp bP .nil pass0 (pa_cons (pv 0) (pa_cons (pe_callB call_len (by rfl) gLen boot_len (pa_cons (pv 1) pa_nil)) pa_nil))) fun _ _ => rfl))), ?_⟩)
  · obtain ⟨b, _, x, rfl, _⟩ := h
    rfl
  · obtain ⟨b, c, x, rfl, hB, h⟩ := h
    rcases h with ⟨a, xs, rfl, hab, ha, h0, h1, hQ⟩ | ⟨z, rfl, h0, h1, hQ⟩
    · refine ⟨_, rfl, _, rfl, _, rfl, .ref a, _, rfl, .inl ⟨xs, Evl.sq_of ha, rfl⟩, b, c, xs.length, rfl, hB, h0, Nat.le_trans h1 (by decide), fun r H' hr hx hB' => .inl ⟨a, xs, r, xs[r], rfl, rfl, Evl.sq_of (hx a _ hab ha), atI_nat (List.getElem?_eq_getElem hr), hQ r _ _ (List.getElem?_eq_getElem hr) hx hB'⟩⟩
    · have hz : z.length ≤ sizeLine := Evl.sz_of (by omega)
      refine ⟨_, rfl, _, rfl, _, rfl, .str z, _, rfl, ⟨hz, rfl⟩, b, c, z.length, rfl, hB, h0, Nat.le_trans h1 (by decide), fun r H' hr hx hB' => .inr (.inr ⟨z, r, z.cps.toList[r]'(by simpa [Str.length] using hr), rfl, rfl, hz, atI_nat (List.getElem?_eq_getElem _), hQ _ _ (List.getElem_mem _) hx hB'⟩)⟩
end
end Tn
/-! The law's names and owners. -/
namespace Tn
open PySem PySem.Spec PyProof.Rows L2
abbrev sNames : Stmt := top 33
abbrev sLown : Stmt := top 34
abbrev nNames : List Str := ["_law_bag_here", "_law_size", "_law_letters", "_law_base", "_law_k", "_law_spot", "_law_first", "_law_step"]
theorem scNames : FnScope nNames ["_law_bag_here", "_law_size"] (defScope sNames) := ⟨rfl, rfl, rfl, by decide +kernel, rfl, by decide +kernel, by decide +kernel⟩
theorem scLown : FnScope ["_law_bag_here"] ["_law_bag_here"] (defScope sLown) := ⟨rfl, rfl, rfl, by decide +kernel, rfl, by decide +kernel, by decide +kernel⟩
/-- n texts, none of them long -/
def spNames : Sp := fun vs H Q _ => ∃ (b cc : Addr) (n : Nat), vs = [.ref b, .int n] ∧ Bag cc H b ∧ n ≤ 1000 ∧ ∀ (p : Addr) (ss : List Str) H', H p = none → Exb b H H' → Bag cc H' b → H' p = some (.lst (ss.map V.str)) → ss.length = n → (∀ s ∈ ss, Pt.GoodS s) → Q (.ref p) H'
def spLown : Sp := fun vs H Q _ => ∃ (b cc : Addr), vs = [.ref b] ∧ Bag cc H b ∧ ∀ (p : Addr) (ss : List Str) H', H p = none → Exb b H H' → Bag cc H' b → H' p = some (.lst (ss.map V.str)) → 0 < ss.length → ss.length ≤ 100 → (∀ s ∈ ss, Pt.GoodS s) → Q (.ref p) H'
theorem upd_upd' {H : Hp} {S : Addr} {a b : HO} : upd (upd H S a) S b = upd H S b := by
  funext x
  unfold upd
  split <;> rfl
theorem t_yes {σ : L2.St} {H : Hp} {A B : Hp → Prop} (h : A H) : tYes σ H (fun b H3 => if b = true then A H3 else B H3) := by
  show if true = true then A H else B H
  rw [if_pos rfl]; exact h
theorem str_len (a b : Str) : (a ++ b).length = a.length + b.length := by
  show (a.cps ++ b.cps).size = _
  rw [Array.size_append] <;> rfl
theorem cutS_len (z : Str) (lo hi : Option Int) : (cutS z lo hi).length ≤ z.length := by
  unfold cutS
  show (List.toArray _).size ≤ z.cps.size
  rw [List.size_toArray, List.length_take, List.length_drop]
  have : z.cps.toList.length = z.cps.size := by simp
  have : z.length = z.cps.size := rfl
  omega
abbrev letters : Str := "abcdefghijklmnopqrstuvwxyz"
theorem letters_ok : ∀ c ∈ letters.cps.toList, c < 1114112 := by decide
theorem str_app (a b : Str) : (a ++ b).cps.toList = a.cps.toList ++ b.cps.toList := by
  show (a.cps ++ b.cps).toList = _
  rw [Array.toList_append]
theorem cutS_mem {z : Str} {lo hi : Option Int} {c : Nat} (h : c ∈ (cutS z lo hi).cps.toList) : c ∈ z.cps.toList := by
  unfold cutS at h
  simp only [List.toList_toArray] at h
  exact List.mem_of_mem_drop (List.mem_of_mem_take h)
theorem Bag.ne {cc : Addr} {H : Hp} {b q : Addr} (B : Bag cc H b) (h : H q = none) : b ≠ q := by
  obtain ⟨ns, pos, big, seed, n, hc, hb, hs⟩ := B
  exact ne_of_none hb h
theorem Exb.back {cc : Addr} {H H' : Hp} {b D : Addr} (x : Exb b H H') (B : Bag cc H' b) (h : H' D = none) : H D = none := by
  cases q : H D with
  | none => rfl
  | some o =>
    have := x D o (B.ne h).symm q
    rw [h] at this; cases this
section
variable {P : Program} {w : World} {K : PySem.W.Frag} {mg : Str → Option Value} {base : Heap} {f fPull fOf fNames : Addr} {fd fdPull fdOf fdNames : FuncData}
theorem ok_names (F : FnP K "_law_names" sNames f fd) (FPull : FnP K "_law_pull" sPull fPull fdPull) (FOf : FnP K "_law_of" sOf fOf fdOf) (gLen : mg "len" = none) (gRange : mg "range" = none) (gPull : mg "_law_pull" = some (.ref fPull)) (gOf : mg "_law_of" = some (.ref fOf)) :
    FnOk P w K mg base CX0 3 f fd ["_law_bag_here", "_law_size"] spNames := by
  have GPull : FnOk P w K mg base CX0 1 fPull fdPull ["_law_bag_here", "_law_amount"] spPull := ok_pull FPull gLen
  have bPull : Binds K fdPull ["_law_bag_here", "_law_amount"] [] := FPull.bindsN fun _ _ _ _ _ _ us hl => match us, hl with | [_, _], _ => rfl
  have GOf : FnOk P w K mg base CX0 2 fOf fdOf ["_law_bag_here", "_law_things"] spOf := ok_of FOf FPull gLen gPull
  have bOf : Binds K fdOf ["_law_bag_here", "_law_things"] [] := FOf.bindsN fun _ _ _ _ _ _ us hl => match us, hl with | [_, _], _ => rfl
  refine F.ok scNames (fun vs H Q E h => ?_) (fun cdv A outer s H vs Q E hr h => ⟨_, PSs.nox (pss_cons (ps_asg (pe_tup (pa_cons pe_str (pa_cons pe_str pa_nil))) (pg_tup rfl (pgs_cons (pg_name (i := 2) scNames.nd rfl (Or.inr rfl)) (pgs_cons (pg_name (i := 3) scNames.nd rfl (Or.inr rfl)) pgs_nil))))
        (pss_cons (ps_for ownx rfl (pi_range1 rfl gRange (pa_cons (pe_call GPull (hr.mono (by decide)) rfl gPull FPull.kp bPull .nil pass0 (pa_cons (pv 0) (pa_cons pe_int pa_nil))) pa_nil)) (pg_name (i := 4) scNames.nd rfl (Or.inl rfl))
        (pss_one (ps_set (i := 3) scNames.nd rfl (Or.inr rfl) (pe_op op_add_str (pv 3) (pe_call GOf hr rfl gOf FOf.kp bOf .nil pass0 (pa_cons (pv 0) (pa_cons (pv 2) pa_nil)))))))
        (pss_cons (ps_asg (pe_tup (pa_cons (pe_call GPull (hr.mono (by decide)) rfl gPull FPull.kp bPull .nil pass0 (pa_cons (pv 0) (pa_cons (pe_op op_add (pe_callB call_len (by rfl) gLen boot_len (pa_cons (pv 3) pa_nil)) pe_int) pa_nil))) (pa_cons (pe_call GPull (hr.mono (by decide)) rfl gPull FPull.kp bPull .nil pass0 (pa_cons (pv 0) (pa_cons pe_int pa_nil))) (pa_cons (pe_call GOf hr rfl gOf FOf.kp bOf .nil pass0 (pa_cons (pv 0) (pa_cons (pe_lst (pa_cons pe_int (pa_cons pe_int (pa_cons pe_int (pa_cons pe_int (pa_cons pe_int pa_nil)))))) pa_nil))) pa_nil)))) (pg_tup rfl (pgs_cons (pg_name (i := 5) scNames.nd rfl (Or.inr rfl)) (pgs_cons (pg_name (i := 6) scNames.nd rfl (Or.inr rfl)) (pgs_cons (pg_name (i := 7) scNames.nd rfl (Or.inr rfl)) pgs_nil)))))
        (pss_one (ps_ret (pe_lc (own := [("_law_k", 4)]) (g := (gName 4)) (tt := tYes) rfl scNames.nd (pi_range1 rfl gRange (pa_cons (pv 1) pa_nil)) (blkOk_by (N := nNames) (sc := defScope sNames) (by decide +kernel)) (fun _ _ _ _ _ => (pg_name (i := 4) scNames.nd rfl (Or.inl rfl))) (fun _ _ _ _ _ => pts_nil) (fun _ _ _ _ _ => (pe_op op_add_str (pe_op op_add_str (pe_slice sl_str (pv 3) po_none (po_some (pv 5))) (pe_ix ix_str (pv 2) (pe_op op_mod (pe_op op_add (pv 6) (pe_op op_mul (pv 7) (pv 4))) pe_int) fun _ _ => rfl)) (pe_slice sl_str (pv 3) (po_some (pv 5)) po_none))))))))), ?_⟩)
  · obtain ⟨b, _, n, rfl, _⟩ := h
    rfl
  · obtain ⟨b, cc, n, rfl, hB, hn, hQ⟩ := h
    refine ⟨by show 2 ≤ sizeLine; decide, fun p0 hp0 => ⟨p0, _, rfl, Evl.st_of upd_same, rfl, _, _, rfl, _, _, rfl, rfl, ?_⟩⟩
    have x0 : Exb b H (upd H p0 (.tup [V.str letters, V.str ""])) := Exb.new hp0
    have B0 : Bag cc (upd H p0 (.tup [V.str letters, V.str ""])) b := hB.new hp0
    show tSeq _ _ _ [some (V.ref b), some (V.int n), some (V.str letters), some (V.str ""), none, none, none, none] (upd H p0 (.tup [V.str letters, V.str ""]))
    generalize upd H p0 (.tup [V.str letters, V.str ""]) = H0 at x0 B0 ⊢
    refine ⟨_, rfl, b, cc, 6, rfl, B0, by decide, by decide, fun r H1 hr6 x1 B1 => ⟨(r : Int), rfl, by omega, by omega, ?_⟩⟩
    refine for_range (lo := 0) (n := r) (fun i σ H' => Exb b H H' ∧ Bag cc H' b ∧ ∃ (z : Str) (c : Option V), z.length = i ∧ (∀ c ∈ z.cps.toList, c < 1114112) ∧ σ = [some (V.ref b), some (V.int n), some (V.str letters), some (V.str z), c, none, none, none]) ⟨x0.trans x1, B1, "", none, rfl, (fun c hc => by revert c hc; decide), rfl⟩ ?_ ?_
    · rintro i σ H' hi ⟨hx, hB', z, c, hz, hzc, rfl⟩
      refine ⟨_, rfl, _, rfl, _, rfl, b, cc, .str letters, rfl, hB', .inr ⟨letters, rfl, by decide, by decide, fun ch H2 hch x2 B2 => ⟨_, _, rfl, rfl, Evl.sz_of ?_, hx.trans x2, B2, z ++ ⟨#[ch]⟩, _, ?_, ?_, rfl⟩⟩⟩
      · show z.length + 1 ≤ 100000
        omega
      · rw [str_len, hz]; rfl
      · intro c' hc'
        rw [str_app] at hc'
        rcases List.mem_append.mp hc' with h | h
        · exact hzc c' h
        · have : c' = ch := by simpa using h
          subst this
          exact letters_ok c' hch
    rintro σ H2 ⟨x2, B2, z, c, hz, hzc, rfl⟩
    have hzl : z.length ≤ sizeLine := Evl.sz_of (by omega)
    refine ⟨_, rfl, _, rfl, .str z, _, rfl, ⟨hzl, rfl⟩, _, _, rfl, rfl, b, cc, z.length + 1, rfl, B2, by omega, by omega, fun sp H3 hsp x3 B3 => ?_⟩
    refine ⟨_, rfl, b, cc, 26, rfl, B3, by decide, by decide, fun fi H4 hfi x4 B4 => ?_⟩
    refine ⟨_, rfl, by show 5 ≤ sizeLine; decide, fun q hq => ⟨b, cc, .ref q, rfl, B4.new hq, .inl ⟨q, _, rfl, ?_, upd_same, by decide, by decide, fun r5 v H5 hv x5 B5 => ?_⟩⟩⟩
    · exact (B4.ne hq).symm
    obtain ⟨st, rfl, hst⟩ : ∃ st : Nat, v = .int st ∧ st ≤ 9 := by
      have hm := List.mem_of_getElem? hv
      simp only [List.mem_cons, List.not_mem_nil, or_false] at hm
      rcases hm with rfl | rfl | rfl | rfl | rfl
      · exact ⟨1, rfl, by decide⟩
      · exact ⟨3, rfl, by decide⟩
      · exact ⟨5, rfl, by decide⟩
      · exact ⟨7, rfl, by decide⟩
      · exact ⟨9, rfl, by decide⟩
    have xx : Exb b H H5 := x2.trans (x3.trans (x4.trans ((Exb.new hq).trans x5)))
    refine ⟨by show 3 ≤ sizeLine; decide, fun p1 hp1 => ⟨p1, _, rfl, Evl.st_of upd_same, rfl, _, _, rfl, _, _, rfl, _, _, rfl, rfl, ?_⟩⟩
    have x6 : Exb b H (upd H5 p1 (.tup [V.int sp, V.int fi, V.int st])) := xx.trans (Exb.new hp1)
    have B6 : Bag cc (upd H5 p1 (.tup [V.int sp, V.int fi, V.int st])) b := B5.new hp1
    generalize upd H5 p1 (.tup [V.int sp, V.int fi, V.int st]) = H6 at x6 B6 ⊢
    refine ⟨_, rfl, (n : Int), rfl, by omega, by omega, fun D hD => ?_⟩
    refine lc_range (lo := 0) (n := n) (fun i H' => ∃ ss : List Str, H' = upd H6 D (.lst (ss.map V.str)) ∧ ss.length = i ∧ ∀ s ∈ ss, Pt.GoodS s) ⟨[], rfl, rfl, fun _ z => nomatch z⟩ ?_ ?_
    · rintro i H' hi ⟨ss, rfl, hl, hss⟩
      refine ⟨rfl, t_yes ?_⟩
      obtain ⟨m, hm, e⟩ : ∃ m : Nat, m < 26 ∧ ((fi : Int) + (st : Int) * (0 + (i : Int))) % 26 = (m : Int) := ⟨(((fi : Int) + (st : Int) * (0 + (i : Int))) % 26).toNat, by have := Int.emod_lt_of_pos ((fi : Int) + (st : Int) * (0 + (i : Int))) (show (0 : Int) < 26 by decide); have := Int.emod_nonneg ((fi : Int) + (st : Int) * (0 + (i : Int))) (show (26 : Int) ≠ 0 by decide); omega, by have := Int.emod_nonneg ((fi : Int) + (st : Int) * (0 + (i : Int))) (show (26 : Int) ≠ 0 by decide); omega⟩
      have hm' : m < letters.cps.toList.length := hm
      have hch : atI letters.cps.toList (((fi : Int) + (st : Int) * (0 + (i : Int))) % 26) = some letters.cps.toList[m] := by rw [e]; exact atI_nat (List.getElem?_eq_getElem hm')
      have c1 := cutS_len z none (some (sp : Int))
      have c2 := cutS_len z (some (sp : Int)) none
      refine ⟨_, rfl, _, rfl, _, rfl, z, rfl, hzl, _, rfl, _, rfl, _, rfl, _, rfl, _, _, rfl, rfl, .inl ⟨?_, ?_⟩, _, _, rfl, rfl, _, _, rfl, rfl, (by show (0 : Int) < 26; decide), letters, _, _, rfl, rfl, by decide, hch, _, _, rfl, rfl, Evl.sz_of ?_, _, rfl, _, rfl, _, rfl, z, rfl, hzl, _, _, rfl, rfl, Evl.sz_of ?_, ss.map V.str, upd_same, ?_, ss ++ [cutS z none (some (sp : Int)) ++ ⟨#[letters.cps.toList[m]]⟩ ++ cutS z (some (sp : Int)) none], ?_, ?_, ?_⟩
      · show -(2 ^ 64 : Int) < (st : Int); omega
      · show (st : Int) < 2 ^ 64; omega
      · show (cutS z none (some (sp : Int))).length + 1 ≤ 100000; omega
      · rw [str_len]; show (cutS z none (some (sp : Int))).length + 1 + (cutS z (some (sp : Int)) none).length ≤ 100000; omega
      · exact Evl.sz_lt (by rw [List.length_map]; omega)
      · rw [upd_upd', List.map_append]; rfl
      · rw [List.length_append, hl]; rfl
      · intro s hs
        rcases List.mem_append.mp hs with hs | hs
        · exact hss s hs
        · rw [List.mem_singleton.mp hs]
          refine ⟨?_, fun c' hc' => ?_⟩
          · rw [str_len, str_len]
            show (cutS z none (some (sp : Int))).length + 1 + (cutS z (some (sp : Int)) none).length ≤ 100
            omega
          · rw [str_app, str_app] at hc'
            rcases List.mem_append.mp hc' with h | h
            · rcases List.mem_append.mp h with h | h
              · exact hzc c' (cutS_mem h)
              · have : c' = letters.cps.toList[m] := by simpa using h
                rw [this]
                exact letters_ok _ (List.getElem_mem _)
            · exact hzc c' (cutS_mem h)
    · rintro H' ⟨ss, rfl, hl, hss⟩
      exact hQ D ss _ (x6.back B6 hD) (x6.trans (Exb.new hD)) (B6.new hD) upd_same hl hss
theorem ok_lown (F : FnP K "_law_owners" sLown f fd) (FPull : FnP K "_law_pull" sPull fPull fdPull) (FOf : FnP K "_law_of" sOf fOf fdOf) (FNames : FnP K "_law_names" sNames fNames fdNames) (gLen : mg "len" = none) (gRange : mg "range" = none) (gPull : mg "_law_pull" = some (.ref fPull)) (gOf : mg "_law_of" = some (.ref fOf)) (gNames : mg "_law_names" = some (.ref fNames)) :
    FnOk P w K mg base CX0 4 f fd ["_law_bag_here"] spLown := by
  have GPull : FnOk P w K mg base CX0 1 fPull fdPull ["_law_bag_here", "_law_amount"] spPull := ok_pull FPull gLen
  have bPull : Binds K fdPull ["_law_bag_here", "_law_amount"] [] := FPull.bindsN fun _ _ _ _ _ _ us hl => match us, hl with | [_, _], _ => rfl
  have GOf : FnOk P w K mg base CX0 2 fOf fdOf ["_law_bag_here", "_law_things"] spOf := ok_of FOf FPull gLen gPull
  have bOf : Binds K fdOf ["_law_bag_here", "_law_things"] [] := FOf.bindsN fun _ _ _ _ _ _ us hl => match us, hl with | [_, _], _ => rfl
  have GNames : FnOk P w K mg base CX0 3 fNames fdNames ["_law_bag_here", "_law_size"] spNames := ok_names FNames FPull FOf gLen gRange gPull gOf
  have bNames : Binds K fdNames ["_law_bag_here", "_law_size"] [] := FNames.bindsN fun _ _ _ _ _ _ us hl => match us, hl with | [_, _], _ => rfl
  refine F.ok scLown (fun vs H Q E h => ?_) (fun cdv A outer s H vs Q E hr h => ⟨_, PSs.nox (pss_one (ps_ret (pe_op op_cat (pe_call GOf (hr.mono (by decide)) rfl gOf FOf.kp bOf .nil pass0 (pa_cons (pv 0) (pa_cons (pe_lst (pa_cons (pe_lst (pa_cons pe_str pa_nil)) (pa_cons (pe_lst pa_nil) pa_nil))) pa_nil))) (pe_call GNames hr rfl gNames FNames.kp bNames .nil pass0 (pa_cons (pv 0) (pa_cons (pe_op op_add pe_int (pe_call GPull (hr.mono (by decide)) rfl gPull FPull.kp bPull .nil pass0 (pa_cons (pv 0) (pa_cons pe_int pa_nil)))) pa_nil)))))), ?_⟩)
  · obtain ⟨b, _, rfl, _⟩ := h
    rfl
  · obtain ⟨b, cc, rfl, hB, hQ⟩ := h
    refine ⟨_, rfl, by show 1 ≤ sizeLine; decide, fun q1 h1 => ⟨by show 0 ≤ sizeLine; decide, fun q2 h2 => ⟨by show 2 ≤ sizeLine; decide, fun q3 h3 => ⟨b, cc, .ref q3, rfl, ((hB.new h1).new h2).new h3, .inl ⟨q3, _, rfl, (((hB.new h1).new h2).ne h3).symm, upd_same, by show 0 < 2; decide, by show 2 ≤ 1000; decide, fun r v H1 hv x1 B1 => ?_⟩⟩⟩⟩⟩
    have n1 : q1 ≠ b := (hB.ne h1).symm
    have n2 : q2 ≠ b := ((hB.new h1).ne h2).symm
    have e2 : (upd (upd (upd H q1 (.lst [V.str "-"])) q2 (.lst [])) q3 (.lst [V.ref q1, V.ref q2])) q2 = some (.lst []) := by rw [upd_ne (ne_of_none upd_same h3), upd_same]
    have e1 : (upd (upd (upd H q1 (.lst [V.str "-"])) q2 (.lst [])) q3 (.lst [V.ref q1, V.ref q2])) q1 = some (.lst [V.str "-"]) := by
      have k : (upd (upd H q1 (.lst [V.str "-"])) q2 (.lst [])) q1 = some (.lst [V.str "-"]) := by rw [upd_ne (ne_of_none upd_same h2), upd_same]
      rw [upd_ne (ne_of_none k h3)]; exact k
    have x0 : Exb b H (upd (upd (upd H q1 (.lst [V.str "-"])) q2 (.lst [])) q3 (.lst [V.ref q1, V.ref q2])) := (Exb.new h1).trans ((Exb.new h2).trans (Exb.new h3))
    obtain ⟨q, as, rfl, nq, hq, hl, hs⟩ : ∃ (q : Addr) (as : List Str), v = .ref q ∧ q ≠ b ∧ H1 q = some (.lst (as.map V.str)) ∧ as.length ≤ 1 ∧ ∀ s ∈ as, Pt.GoodS s := by
      have hm := List.mem_of_getElem? hv
      simp only [List.mem_cons, List.not_mem_nil, or_false] at hm
      rcases hm with rfl | rfl
      · exact ⟨q1, ["-"], rfl, n1, x1 q1 _ n1 e1, by decide, fun s hs => by rw [List.mem_singleton.mp hs]; exact ⟨by decide, by decide⟩⟩
      · exact ⟨q2, [], rfl, n2, x1 q2 _ n2 e2, by decide, fun s hs => nomatch hs⟩
    refine ⟨_, rfl, _, rfl, b, cc, 2, rfl, B1, by decide, by decide, fun r2 H2 hr2 x2 B2 => ⟨_, _, rfl, rfl, b, cc, 2 + r2, rfl, B2, by omega, fun p ss H3 hp x3 B3 hl3 hlen hss => ?_⟩⟩
    have hq3 := x3 q _ nq (x2 q _ nq hq)
    refine ⟨q, p, _, _, rfl, rfl, hq3, hl3, Evl.sz_of (by rw [List.length_map, List.length_map]; omega), fun t ht => ?_⟩
    have xx : Exb b H H3 := x0.trans (x1.trans (x2.trans x3))
    refine hQ t (as ++ ss) _ (xx.back B3 ht) (xx.trans (Exb.new ht)) (B3.new ht) (by rw [upd_same, List.map_append]) (by rw [List.length_append]; omega) (by rw [List.length_append]; omega) fun s h => ?_
    rcases List.mem_append.mp h with h | h
    · exact hs s h
    · exact hss s h
end
end Tn
/-! Plain trees: the ends of a tree part the numbers. -/
namespace Pt
open PySem

inductive Tr where
  | lf (s : Str)
  | nd (ts : List Tr)
abbrev End := Nat × Nat × Str
mutual
def Tr.ends : Tr → Nat → Nat → List End
  | .lf s, f, st => [(f, st, s)]
  | .nd ts, f, st => endsL ts f st (st * ts.length) 0
def endsL : List Tr → Nat → Nat → Nat → Nat → List End
  | [], _, _, _, _ => []
  | t :: ts, f, st, w, i => t.ends (f + st * i) w ++ endsL ts f st w (i + 1)
end
mutual
def Tr.own : Tr → Nat → Str
  | .lf s, _ => s
  | .nd ts, j => ownL ts (j % ts.length) (j / ts.length)
def ownL : List Tr → Nat → Nat → Str
  | [], _, _ => ⟨#[]⟩
  | t :: _, 0, j => t.own j
  | _ :: ts, k + 1, j => ownL ts k j
end
mutual
/-- no node without children -/
def Tr.ok : Tr → Prop
  | .lf _ => True
  | .nd ts => ts ≠ [] ∧ okL ts
def okL : List Tr → Prop
  | [] => True
  | t :: ts => t.ok ∧ okL ts
end
/-- x is of the end -/
def hit (e : End) (x : Nat) : Prop := e.1 ≤ x ∧ (x - e.1) % e.2.1 = 0
instance (e : End) (x : Nat) : Decidable (hit e x) := by unfold hit; exact inferInstance
def one (n : Str) (e : End) (x : Nat) : Nat := if e.2.2 = n ∧ hit e x then 1 else 0
def hits (n : Str) : List End → Nat → Nat
  | [], _ => 0
  | e :: l, x => one n e x + hits n l x
theorem hits_app (n : Str) (a b : List End) (x : Nat) : hits n (a ++ b) x = hits n a x + hits n b x := by
  induction a with
  | nil => simp [hits]
  | cons e l ih => simp [hits, ih]; omega
theorem hit_iff {f st x : Nat} (hs : 0 < st) (s : Str) : hit (f, st, s) x ↔ ∃ j, x = f + st * j := by
  unfold hit
  constructor
  · rintro ⟨h1, h2⟩
    obtain ⟨j, hj⟩ := Nat.dvd_of_mod_eq_zero h2
    exact ⟨j, by show x = f + st * j; have : x - f = st * j := hj; have : f ≤ x := h1; omega⟩
  · rintro ⟨j, rfl⟩
    exact ⟨Nat.le_add_right _ _, by show (f + st * j - f) % st = 0; rw [Nat.add_sub_cancel_left]; exact Nat.mul_mod_right _ _⟩
mutual
/-- the ends of a tree hold only numbers of its own progression -/
theorem ends_off (n : Str) : ∀ (t : Tr) (f st x : Nat), 0 < st → (∀ j, x ≠ f + st * j) → hits n (t.ends f st) x = 0
  | .lf s, f, st, x, hs, h => by
    have : ¬ hit (f, st, s) x := fun z => by obtain ⟨j, e⟩ := (hit_iff hs s).mp z; exact h j e
    simp [Tr.ends, hits, one, this]
  | .nd ts, f, st, x, hs, h => by
    rw [Tr.ends]
    by_cases hl : ts.length = 0
    · have : ts = [] := List.length_eq_zero_iff.mp hl
      subst this
      simp [endsL, hits]
    · exact endsL_off n ts f st ts.length 0 x hs (Nat.pos_of_ne_zero hl) fun i j _ => by
        have e : f + st * (0 + i) + st * ts.length * j = f + st * (i + ts.length * j) := by
          rw [Nat.zero_add, Nat.mul_add, Nat.mul_assoc, Nat.add_assoc]
        rw [e]; exact h _
theorem endsL_off (n : Str) : ∀ (ts : List Tr) (f st m i x : Nat), 0 < st → 0 < m → (∀ k j, k < ts.length → x ≠ f + st * (i + k) + st * m * j) → hits n (endsL ts f st (st * m) i) x = 0
  | [], _, _, _, _, _, _, _, _ => by simp [endsL, hits]
  | t :: ts, f, st, m, i, x, hs, hm, h => by
    rw [endsL, hits_app, ends_off n t (f + st * i) (st * m) x (Nat.mul_pos hs hm) (fun j => by have := h 0 j (by simp); simpa using this),
      endsL_off n ts f st m (i + 1) x hs hm fun k j hk => by have := h (k + 1) j (by simpa using hk); rw [show i + 1 + k = i + (k + 1) by omega]; exact this]
end
theorem mod_uniq {m r r2 q q2 : Nat} (h1 : r < m) (h2 : r2 < m) (e : r + m * q = r2 + m * q2) : r = r2 ∧ q = q2 := by
  have a : (r + m * q) % m = r := by rw [Nat.add_mul_mod_self_left, Nat.mod_eq_of_lt h1]
  have b : (r2 + m * q2) % m = r2 := by rw [Nat.add_mul_mod_self_left, Nat.mod_eq_of_lt h2]
  have c : r = r2 := by rw [← a, ← b, e]
  subst c
  refine ⟨rfl, Nat.eq_of_mul_eq_mul_left (by omega : 0 < m) ?_⟩
  omega
mutual
/-- each number of the tree's progression lies in one end, its owner's -/
theorem ends_on (n : Str) : ∀ (t : Tr) (f st j : Nat), 0 < st → t.ok → hits n (t.ends f st) (f + st * j) = if t.own j = n then 1 else 0
  | .lf s, f, st, j, hs, _ => by
    have : hit (f, st, s) (f + st * j) := (hit_iff hs s).mpr ⟨j, rfl⟩
    by_cases hh : s = n
    · subst hh; simp [Tr.ends, hits, one, this, Tr.own]
    · simp [Tr.ends, hits, one, Tr.own, hh]
  | .nd ts, f, st, j, hs, h => by
    rw [Tr.ok] at h
    have hl : 0 < ts.length := List.length_pos_iff.mpr h.1
    rw [Tr.ends, Tr.own]
    have e := endsL_on n ts f st ts.length 0 (j % ts.length) (j / ts.length) hs (Nat.mod_lt _ hl) (Nat.zero_le _) (by simpa using Nat.mod_lt j hl) (by omega) h.2
    rw [Nat.mod_add_div, Nat.sub_zero] at e
    exact e
theorem endsL_on (n : Str) : ∀ (ts : List Tr) (f st m i r q : Nat), 0 < st → r < m → i ≤ r → r < i + ts.length → i + ts.length ≤ m → okL ts → hits n (endsL ts f st (st * m) i) (f + st * (r + m * q)) = if ownL ts (r - i) q = n then 1 else 0
  | [], f, st, m, i, r, q, hs, hm, h1, h2, h3, _ => by simp at h2; omega
  | t :: ts, f, st, m, i, r, q, hs, hm, h1, h2, h3, h => by
    rw [okL] at h
    rw [endsL, hits_app]
    have hm0 : 0 < m := by omega
    simp only [List.length_cons] at h2 h3
    by_cases hr : r = i
    · subst hr
      have e1 : f + st * (r + m * q) = f + st * r + st * m * q := by rw [Nat.mul_add, Nat.mul_assoc, Nat.add_assoc]
      rw [show hits n (t.ends (f + st * r) (st * m)) (f + st * (r + m * q)) = if t.own q = n then 1 else 0 by rw [e1]; exact ends_on n t _ _ _ (Nat.mul_pos hs hm0) h.1]
      rw [endsL_off n ts f st m (r + 1) _ hs hm0 fun k j hk z => by
        have z' : st * (r + m * q) = st * (r + 1 + k + m * j) := by rw [Nat.mul_add st (r + 1 + k), ← Nat.mul_assoc]; omega
        have := (mod_uniq hm (by omega) (Nat.eq_of_mul_eq_mul_left hs z')).1
        omega]
      rw [Nat.sub_self]
      by_cases hh : t.own q = n <;> simp [ownL, hh]
    · rw [ends_off n t (f + st * i) (st * m) _ (Nat.mul_pos hs hm0) fun j z => by
        have z' : st * (r + m * q) = st * (i + m * j) := by rw [Nat.mul_add st i, ← Nat.mul_assoc]; omega
        have := (mod_uniq hm (by omega) (Nat.eq_of_mul_eq_mul_left hs z')).1
        omega]
      rw [Nat.zero_add, endsL_on n ts f st m (i + 1) r q hs hm (by omega) (by omega) (by omega) h.2]
      rw [show r - i = (r - (i + 1)) + 1 by omega]
      by_cases hh : ownL ts (r - (i + 1)) q = n <;> simp [ownL, hh]
end
/-- how many of the first x are its -/
def cntE (n : Str) (e : End) (x : Nat) : Nat := if e.2.2 = n ∧ e.1 < x then (x - e.1 - 1) / e.2.1 + 1 else 0
def cnts (n : Str) : List End → Nat → Nat
  | [], _ => 0
  | e :: l, x => cntE n e x + cnts n l x
theorem cntE_succ (n : Str) (e : End) (x : Nat) (hs : 0 < e.2.1) : cntE n e (x + 1) = cntE n e x + one n e x := by
  obtain ⟨f, st, s⟩ := e
  unfold cntE one hit
  dsimp only at hs ⊢
  by_cases hn : s = n
  · simp only [hn, true_and]
    by_cases h1 : f < x
    · rw [if_pos (by omega : f < x + 1), if_pos h1]
      have e1 : x + 1 - f - 1 = (x - f - 1) + 1 := by omega
      have e2 : x - f = (x - f - 1) + 1 := by omega
      rw [e1, Nat.succ_div]
      by_cases hd : st ∣ x - f - 1 + 1
      · rw [if_pos hd, if_pos ⟨by omega, by rw [e2]; exact Nat.mod_eq_zero_of_dvd hd⟩]
      · rw [if_neg hd, if_neg (fun z => hd (by rw [← e2]; exact Nat.dvd_of_mod_eq_zero z.2))]
    · rw [if_neg h1]
      by_cases h2 : f = x
      · subst h2
        simp
      · rw [if_neg (by omega), if_neg (by omega)]
  · simp [hn]
mutual
theorem ends_pos : ∀ (t : Tr) (f st : Nat), 0 < st → t.ok → ∀ e ∈ t.ends f st, 0 < e.2.1
  | .lf s, f, st, hs, _, e, he => by
    rw [Tr.ends] at he
    rw [List.mem_singleton.mp he]; exact hs
  | .nd ts, f, st, hs, h, e, he => by
    rw [Tr.ok] at h
    rw [Tr.ends] at he
    exact endsL_pos ts f st _ 0 (Nat.mul_pos hs (List.length_pos_iff.mpr h.1)) h.2 e he
theorem endsL_pos : ∀ (ts : List Tr) (f st w i : Nat), 0 < w → okL ts → ∀ e ∈ endsL ts f st w i, 0 < e.2.1
  | [], f, st, w, i, hw, _, e, he => by rw [endsL] at he; cases he
  | t :: ts, f, st, w, i, hw, h, e, he => by
    rw [okL] at h
    rw [endsL] at he
    rcases List.mem_append.mp he with he | he
    · exact ends_pos t _ w hw h.1 e he
    · exact endsL_pos ts f st w (i + 1) hw h.2 e he
end
theorem cnts_succ (n : Str) : ∀ (l : List End) (x : Nat), (∀ e ∈ l, 0 < e.2.1) → cnts n l (x + 1) = cnts n l x + hits n l x
  | [], _, _ => rfl
  | e :: l, x, h => by
    rw [cnts, cnts, hits, cntE_succ n e x (h e List.mem_cons_self), cnts_succ n l x fun e he => h e (List.mem_cons_of_mem _ he)]
    omega
theorem cnts_zero (n : Str) : ∀ (l : List End), cnts n l 0 = 0
  | [] => rfl
  | e :: l => by rw [cnts, cnts_zero n l]; simp [cntE]
/-- how many of the first x numbers are n's -/
def tally (a : Nat → Str) (n : Str) : Nat → Nat
  | 0 => 0
  | x + 1 => tally a n x + if a x = n then 1 else 0
/-- count: the ends' sums are the tally -/
theorem cnts_tally (n : Str) (t : Tr) (h : t.ok) : ∀ x, cnts n (t.ends 0 1) x = tally t.own n x
  | 0 => cnts_zero n _
  | x + 1 => by
    rw [cnts_succ n _ x (ends_pos t 0 1 (by decide) h), cnts_tally n t h x, tally]
    have e := ends_on n t 0 1 x (by decide) h
    rw [Nat.zero_add, Nat.one_mul] at e
    rw [e]

/-! ### periods -/
mutual
theorem ends_lt : ∀ (t : Tr) (f st : Nat), f < st → t.ok → ∀ e ∈ t.ends f st, e.1 < e.2.1
  | .lf s, f, st, hs, _, e, he => by
    rw [Tr.ends] at he
    rw [List.mem_singleton.mp he]; exact hs
  | .nd ts, f, st, hs, h, e, he => by
    rw [Tr.ok] at h
    rw [Tr.ends] at he
    exact endsL_lt ts f st ts.length 0 hs (by omega) h.2 e he
theorem endsL_lt : ∀ (ts : List Tr) (f st m i : Nat), f < st → i + ts.length ≤ m → okL ts → ∀ e ∈ endsL ts f st (st * m) i, e.1 < e.2.1
  | [], f, st, m, i, hw, _, _, e, he => by rw [endsL] at he; cases he
  | t :: ts, f, st, m, i, hw, hm, h, e, he => by
    rw [okL] at h
    rw [endsL] at he
    simp only [List.length_cons] at hm
    rcases List.mem_append.mp he with he | he
    · refine ends_lt t _ _ ?_ h.1 e he
      have : st * (i + 1) ≤ st * m := Nat.mul_le_mul_left _ (by omega)
      rw [Nat.mul_add] at this
      omega
    · exact endsL_lt ts f st m (i + 1) hw (by omega) h.2 e he
end
theorem hit_mod {e : End} (h : e.1 < e.2.1) (x : Nat) : hit e x ↔ x % e.2.1 = e.1 := by
  unfold hit
  constructor
  · rintro ⟨h1, h2⟩
    have e1 : x = e.1 + (x - e.1) := by omega
    rw [e1, Nat.add_mod, h2, Nat.add_zero, Nat.mod_mod, Nat.mod_eq_of_lt h]
  · intro h1
    have e1 := Nat.mod_add_div x e.2.1
    rw [h1] at e1
    refine ⟨by omega, ?_⟩
    rw [show x - e.1 = e.2.1 * (x / e.2.1) by omega]
    exact Nat.mul_mod_right _ _
theorem hits_period (n : Str) (W : Nat) : ∀ (l : List End), (∀ e ∈ l, e.1 < e.2.1 ∧ e.2.1 ∣ W) → ∀ x, hits n l (x + W) = hits n l x
  | [], _, _ => rfl
  | e :: l, h, x => by
    rw [hits, hits, hits_period n W l fun e he => h e (List.mem_cons_of_mem _ he)]
    obtain ⟨h1, k, hk⟩ := h e List.mem_cons_self
    have : hit e (x + W) ↔ hit e x := by rw [hit_mod h1, hit_mod h1, hk, Nat.add_mul_mod_self_left]
    unfold one
    simp only [this]
theorem own_period (t : Tr) (h : t.ok) (W : Nat) (hW : ∀ e ∈ t.ends 0 1, e.2.1 ∣ W) (x : Nat) : t.own (x + W) = t.own x := by
  have hl := ends_lt t 0 1 (by decide) h
  have e1 := ends_on (t.own x) t 0 1 (x + W) (by decide) h
  have e2 := ends_on (t.own x) t 0 1 x (by decide) h
  rw [Nat.zero_add, Nat.one_mul] at e1 e2
  rw [hits_period _ W _ (fun e he => ⟨hl e he, hW e he⟩) x, e2] at e1
  by_cases hh : t.own (x + W) = t.own x
  · exact hh
  · simp [hh] at e1
/-- the sum of W / step over n's ends -/
def parts (n : Str) (W : Nat) : List End → Nat
  | [] => 0
  | e :: l => (if e.2.2 = n then W / e.2.1 else 0) + parts n W l
theorem cntE_add (n : Str) (e : End) (h : e.1 < e.2.1) (x : Nat) : ∀ k, cntE n e (x + e.2.1 * k) = cntE n e x + if e.2.2 = n then k else 0
  | 0 => by simp
  | k + 1 => by
    have ih := cntE_add n e h x k
    rw [Nat.mul_succ, ← Nat.add_assoc]
    generalize x + e.2.1 * k = y at ih ⊢
    obtain ⟨f, st, s⟩ := e
    dsimp only at h ih ⊢
    unfold cntE at ih ⊢
    dsimp only at ih ⊢
    by_cases hn : s = n
    · simp only [hn, true_and, if_true] at ih ⊢
      rw [if_pos (by omega : f < y + st)]
      by_cases h1 : f < y
      · rw [if_pos h1] at ih
        rw [show y + st - f - 1 = (y - f - 1) + st by omega, Nat.add_div_right _ (by omega)]
        omega
      · rw [if_neg h1] at ih
        rw [Nat.div_eq_of_lt (by omega)]
        omega
    · simp only [hn, false_and, if_false] at ih ⊢
theorem cnts_add (n : Str) (W : Nat) : ∀ (l : List End), (∀ e ∈ l, e.1 < e.2.1 ∧ e.2.1 ∣ W) → ∀ x, cnts n l (x + W) = cnts n l x + parts n W l
  | [], _, _ => rfl
  | e :: l, h, x => by
    rw [cnts, cnts, parts, cnts_add n W l fun e he => h e (List.mem_cons_of_mem _ he)]
    obtain ⟨h1, k, hk⟩ := h e List.mem_cons_self
    have := cntE_add n e h1 x k
    rw [← hk] at this
    rw [this, hk, Nat.mul_div_cancel_left _ (by omega)]
    omega
end Pt
/-! taken, hands: what a shift by a whole width leaves. -/
namespace Pt
open PySem

mutual
def Tr.take : Tr → Nat → Nat → Tr
  | .lf s, _, _ => .lf s
  | .nd ts, f, st => if ts.length / Nat.gcd ts.length st = 1 then takeAt ts (f % ts.length) (f / ts.length) (st / Nat.gcd ts.length st) else
      .nd ((List.range (ts.length / Nat.gcd ts.length st)).map fun k => takeAt ts ((f + st * k) % ts.length) ((f + st * k) / ts.length) (st / Nat.gcd ts.length st))
def takeAt : List Tr → Nat → Nat → Nat → Tr
  | [], _, _, _ => .lf ⟨#[]⟩
  | t :: _, 0, f, st => t.take f st
  | _ :: ts, i + 1, f, st => takeAt ts i f st
end
theorem ownL_at : ∀ (ts : List Tr) (i j : Nat) (t : Tr), ts[i]? = some t → ownL ts i j = t.own j
  | t :: _, 0, j, u, h => by simp at h; subst h; rfl
  | _ :: ts, i + 1, j, u, h => by simp at h; rw [ownL]; exact ownL_at ts i j u h
theorem step_split {m st f j c g : Nat} (hm : 0 < m) (hg : m = g * c) (hs : st % g = 0) (k q : Nat) (hj : j = k + c * q) : (f + st * j) % m = (f + st * k) % m ∧ (f + st * j) / m = (f + st * k) / m + (st / g) * q := by
  have hg0 : 0 < g := Nat.pos_of_ne_zero fun z => by rw [z, Nat.zero_mul] at hg; omega
  obtain ⟨d, hd⟩ := Nat.dvd_of_mod_eq_zero hs
  have e : f + st * j = f + st * k + m * (d * q) := by
    rw [hj, hd, hg, Nat.mul_add, ← Nat.add_assoc]
    congr 1
    rw [Nat.mul_assoc, Nat.mul_assoc, Nat.mul_left_comm d c q]
  rw [e, Nat.add_mul_mod_self_left, Nat.add_mul_div_left _ _ hm, hd, Nat.mul_div_cancel_left _ hg0]
  exact ⟨rfl, rfl⟩
mutual
theorem take_own : ∀ (t : Tr) (f st j : Nat), t.ok → (t.take f st).own j = t.own (f + st * j)
  | .lf s, f, st, j, _ => by simp [Tr.take, Tr.own]
  | .nd ts, f, st, j, h => by
    rw [Tr.ok] at h
    have hm : 0 < ts.length := List.length_pos_iff.mpr h.1
    have hg0 : 0 < Nat.gcd ts.length st := Nat.gcd_pos_of_pos_left _ hm
    have hgm : ts.length = Nat.gcd ts.length st * (ts.length / Nat.gcd ts.length st) := (Nat.mul_div_cancel' (Nat.gcd_dvd_left _ _)).symm
    have hgs : st % Nat.gcd ts.length st = 0 := Nat.mod_eq_zero_of_dvd (Nat.gcd_dvd_right _ _)
    have hc0 : 0 < ts.length / Nat.gcd ts.length st := Nat.div_pos (Nat.le_of_dvd hm (Nat.gcd_dvd_left _ _)) hg0
    have at_ := takeAt_own ts
    rw [Tr.take, Tr.own]
    generalize hgd : Nat.gcd ts.length st = g at hg0 hgm hgs hc0 ⊢
    generalize hcd : ts.length / g = c at hgm hc0 ⊢
    by_cases h1 : c = 1
    · rw [if_pos h1]
      subst h1
      obtain ⟨e1, e2⟩ := step_split (f := f) (st := st) (j := j) hm hgm hgs 0 j (by omega)
      rw [e1, e2, Nat.mul_zero, Nat.add_zero, at_ _ _ _ _ h.2 (Nat.mod_lt _ hm)]
    · rw [if_neg h1, Tr.own, List.length_map, List.length_range]
      have hk : j % c < c := Nat.mod_lt _ hc0
      obtain ⟨e1, e2⟩ := step_split (f := f) hm hgm hgs (j % c) (j / c) (Nat.mod_add_div j c).symm
      rw [e1, e2, ownL_at _ _ _ (takeAt ts ((f + st * (j % c)) % ts.length) ((f + st * (j % c)) / ts.length) (st / g)) (by rw [List.getElem?_map, List.getElem?_range hk]; rfl), at_ _ _ _ _ h.2 (Nat.mod_lt _ hm)]
theorem takeAt_own : ∀ (ts : List Tr) (i f st j : Nat), okL ts → i < ts.length → (takeAt ts i f st).own j = ownL ts i (f + st * j)
  | [], i, _, _, _, _, h => by simp at h
  | t :: ts, 0, f, st, j, h, _ => by
    rw [okL] at h
    rw [takeAt, ownL]; exact take_own t f st j h.1
  | t :: ts, i + 1, f, st, j, h, hi => by
    rw [okL] at h
    rw [takeAt, ownL]; exact takeAt_own ts i f st j h.2 (by simpa using hi)
end

/-! ### a whole width -/
mutual
/-- W is a whole number of the tree's rounds -/
def Tr.good : Tr → Nat → Prop
  | .lf _, _ => True
  | .nd ts, W => ts.length ∣ W ∧ goodL ts (W / ts.length)
def goodL : List Tr → Nat → Prop
  | [], _ => True
  | t :: ts, W => t.good W ∧ goodL ts W
end
mutual
theorem take_shift : ∀ (t : Tr) (f st W : Nat), t.ok → t.good W → t.take (f + W) st = t.take f st
  | .lf s, f, st, W, _, _ => by rw [Tr.take, Tr.take]
  | .nd ts, f, st, W, h, hg => by
    rw [Tr.ok] at h
    rw [Tr.good] at hg
    have hm : 0 < ts.length := List.length_pos_iff.mpr h.1
    obtain ⟨d, hd⟩ := hg.1
    have hWd : W / ts.length = d := by rw [hd, Nat.mul_div_cancel_left _ hm]
    have g2 := hg.2
    rw [hWd] at g2
    have key : ∀ x, (x + W) % ts.length = x % ts.length ∧ (x + W) / ts.length = x / ts.length + d := fun x => by
      rw [hd, Nat.add_mul_mod_self_left, Nat.add_mul_div_left _ _ hm]; exact ⟨rfl, rfl⟩
    have sh := takeAt_shift ts
    rw [Tr.take, Tr.take]
    have e1 : takeAt ts ((f + W) % ts.length) ((f + W) / ts.length) (st / Nat.gcd ts.length st) = takeAt ts (f % ts.length) (f / ts.length) (st / Nat.gcd ts.length st) := by
      rw [(key f).1, (key f).2, sh _ _ _ _ h.2 g2]
    have e2 : (fun k => takeAt ts ((f + W + st * k) % ts.length) ((f + W + st * k) / ts.length) (st / Nat.gcd ts.length st)) = fun k => takeAt ts ((f + st * k) % ts.length) ((f + st * k) / ts.length) (st / Nat.gcd ts.length st) := by
      funext k
      rw [show f + W + st * k = f + st * k + W by omega, (key _).1, (key _).2, sh _ _ _ _ h.2 g2]
    rw [e1, e2]
theorem takeAt_shift : ∀ (ts : List Tr) (i f st W : Nat), okL ts → goodL ts W → takeAt ts i (f + W) st = takeAt ts i f st
  | [], i, _, _, _, _, _ => by simp [takeAt]
  | t :: ts, 0, f, st, W, h, hg => by
    rw [okL] at h
    rw [goodL] at hg
    rw [takeAt, takeAt]; exact take_shift t f st W h.1 hg.1
  | t :: ts, i + 1, f, st, W, h, hg => by
    rw [okL] at h
    rw [goodL] at hg
    rw [takeAt, takeAt]; exact takeAt_shift ts i f st W h.2 hg.2
end
mutual
/-- what hands_of hands out: the path, the number modulo the size -/
def Tr.hands : Tr → List Nat → Nat → List (List Nat × Nat)
  | .lf _, _, _ => []
  | .nd ts, p, d => (p, d % ts.length) :: handsL ts p d ts.length 0
def handsL : List Tr → List Nat → Nat → Nat → Nat → List (List Nat × Nat)
  | [], _, _, _, _ => []
  | t :: ts, p, d, m, i => t.hands (p ++ [i]) ((d + m - 1 - i) / m) ++ handsL ts p d m (i + 1)
end
mutual
theorem hands_shift : ∀ (t : Tr) (p : List Nat) (d W : Nat), t.ok → t.good W → t.hands p (d + W) = t.hands p d
  | .lf s, p, d, W, _, _ => by rw [Tr.hands, Tr.hands]
  | .nd ts, p, d, W, h, hg => by
    rw [Tr.ok] at h
    rw [Tr.good] at hg
    have hm : 0 < ts.length := List.length_pos_iff.mpr h.1
    obtain ⟨e, he⟩ := hg.1
    have hWd : W / ts.length = e := by rw [he, Nat.mul_div_cancel_left _ hm]
    have g2 := hg.2
    rw [hWd] at g2
    rw [Tr.hands, Tr.hands, he, Nat.add_mul_mod_self_left, handsL_shift ts p d ts.length 0 e (by omega) h.2 g2]
theorem handsL_shift : ∀ (ts : List Tr) (p : List Nat) (d m i W : Nat), i + ts.length ≤ m → okL ts → goodL ts W → handsL ts p (d + m * W) m i = handsL ts p d m i
  | [], _, _, _, _, _, _, _, _ => by rw [handsL, handsL]
  | t :: ts, p, d, m, i, W, hi, h, hg => by
    rw [okL] at h
    rw [goodL] at hg
    simp only [List.length_cons] at hi
    have e : (d + m * W + m - 1 - i) / m = (d + m - 1 - i) / m + W := by
      rw [show d + m * W + m - 1 - i = (d + m - 1 - i) + m * W by omega, Nat.add_mul_div_left _ _ (by omega)]
    rw [handsL, handsL, e, hands_shift t _ _ W h.1 hg.1, handsL_shift ts p d m (i + 1) W (by omega) h.2 hg.2]
end
mutual
theorem ends_dvd : ∀ (t : Tr) (f st : Nat), t.ok → ∃ e ∈ t.ends f st, st ∣ e.2.1
  | .lf s, f, st, _ => ⟨(f, st, s), by rw [Tr.ends]; exact List.mem_singleton.mpr rfl, Nat.dvd_refl _⟩
  | .nd ts, f, st, h => by
    rw [Tr.ok] at h
    rw [Tr.ends]
    obtain ⟨e, he, hd⟩ := endsL_dvd ts f st (st * ts.length) 0 h.1 h.2
    exact ⟨e, he, Nat.dvd_trans (Nat.dvd_mul_right _ _) hd⟩
theorem endsL_dvd : ∀ (ts : List Tr) (f st w i : Nat), ts ≠ [] → okL ts → ∃ e ∈ endsL ts f st w i, w ∣ e.2.1
  | [], f, st, w, i, h, _ => absurd rfl h
  | t :: ts, f, st, w, i, _, h => by
    rw [okL] at h
    rw [endsL]
    obtain ⟨e, he, hd⟩ := ends_dvd t (f + st * i) w h.1
    exact ⟨e, List.mem_append_left _ he, hd⟩
end
mutual
/-- a common multiple of the steps is a whole number of rounds -/
theorem good_of : ∀ (t : Tr) (f st W : Nat), 0 < st → t.ok → (∀ e ∈ t.ends f st, e.2.1 ∣ st * W) → t.good W
  | .lf s, f, st, W, _, _, _ => by rw [Tr.good]; trivial
  | .nd ts, f, st, W, hs, h, hW => by
    rw [Tr.ok] at h
    rw [Tr.ends] at hW
    have hm : 0 < ts.length := List.length_pos_iff.mpr h.1
    obtain ⟨e, he, hd⟩ := endsL_dvd ts f st (st * ts.length) 0 h.1 h.2
    have d1 : ts.length ∣ W := Nat.dvd_of_mul_dvd_mul_left hs (Nat.dvd_trans hd (hW e he))
    rw [Tr.good]
    refine ⟨d1, goodL_of ts f st (st * ts.length) 0 (W / ts.length) (Nat.mul_pos hs hm) h.2 fun e he => ?_⟩
    rw [Nat.mul_assoc, Nat.mul_div_cancel' d1]
    exact hW e he
theorem goodL_of : ∀ (ts : List Tr) (f st w i W : Nat), 0 < w → okL ts → (∀ e ∈ endsL ts f st w i, e.2.1 ∣ w * W) → goodL ts W
  | [], _, _, _, _, _, _, _, _ => by rw [goodL]; trivial
  | t :: ts, f, st, w, i, W, hw, h, hW => by
    rw [okL] at h
    rw [endsL] at hW
    rw [goodL]
    exact ⟨good_of t _ w W hw h.1 fun e he => hW e (List.mem_append_left _ he), goodL_of ts f st w (i + 1) W hw h.2 fun e he => hW e (List.mem_append_right _ he)⟩
end
end Pt
/-! Trees in the heap. -/
namespace Pt
open PySem
mutual
/-- at most so many levels, two to four outlets, no long text -/
def Tr.fit : Tr → Nat → Prop
  | .lf s, _ => GoodS s
  | .nd ts, d => match d with
    | 0 => False
    | d + 1 => 2 ≤ ts.length ∧ ts.length ≤ 4 ∧ fitL ts d
def fitL : List Tr → Nat → Prop
  | [], _ => True
  | t :: ts, d => t.fit d ∧ fitL ts d
end
mutual
theorem Tr.fit.ok : ∀ (t : Tr) (d : Nat), t.fit d → t.ok
  | .lf s, _, _ => by rw [Tr.ok]; trivial
  | .nd ts, 0, h => by rw [Tr.fit] at h; exact h.elim
  | .nd ts, d + 1, h => by
    rw [Tr.fit] at h
    rw [Tr.ok]
    refine ⟨fun z => ?_, fitL.ok ts d h.2.2⟩
    rw [z] at h
    exact absurd h.1 (by decide)
theorem fitL.ok : ∀ (ts : List Tr) (d : Nat), fitL ts d → okL ts
  | [], _, _ => by rw [okL]; trivial
  | t :: ts, d, h => by
    rw [fitL] at h
    rw [okL]
    exact ⟨Tr.fit.ok t d h.1, fitL.ok ts d h.2⟩
end
mutual
theorem Tr.fit.up : ∀ (t : Tr) (d : Nat), t.fit d → t.fit (d + 1)
  | .lf s, _, h => by rw [Tr.fit] at h ⊢; exact h
  | .nd ts, 0, h => by rw [Tr.fit] at h; exact h.elim
  | .nd ts, d + 1, h => by
    rw [Tr.fit] at h ⊢
    exact ⟨h.1, h.2.1, fitL.up ts d h.2.2⟩
theorem fitL.up : ∀ (ts : List Tr) (d : Nat), fitL ts d → fitL ts (d + 1)
  | [], _, _ => by rw [fitL]; trivial
  | t :: ts, d, h => by
    rw [fitL] at h ⊢
    exact ⟨Tr.fit.up t d h.1, fitL.up ts d h.2⟩
end
theorem fitL_app : ∀ (a b : List Tr) (d : Nat), fitL (a ++ b) d ↔ fitL a d ∧ fitL b d
  | [], b, d => by simp [fitL]
  | t :: a, b, d => by rw [List.cons_append, fitL, fitL, fitL_app a b d, and_assoc]
theorem fitL_get : ∀ (ts : List Tr) (d i : Nat) (t : Tr), fitL ts d → ts[i]? = some t → t.fit d
  | [], _, _, _, _, e => by simp at e
  | a :: ts, d, 0, t, h, e => by
    rw [fitL] at h
    have := Option.some.inj e
    subst this; exact h.1
  | a :: ts, d, i + 1, t, h, e => by
    rw [fitL] at h
    exact fitL_get ts d i t h.2 e
theorem endsL_snoc : ∀ (l : List Tr) (t : Tr) (f st w i : Nat), endsL (l ++ [t]) f st w i = endsL l f st w i ++ t.ends (f + st * (i + l.length)) w
  | [], t, f, st, w, i => by simp [endsL]
  | a :: l, t, f, st, w, i => by
    rw [List.cons_append, endsL, endsL, endsL_snoc l t f st w (i + 1), List.append_assoc, List.length_cons]
    rw [show i + 1 + l.length = i + (l.length + 1) by omega]
mutual
theorem ends_count : ∀ (t : Tr) (d f st : Nat), t.fit d → (t.ends f st).length ≤ 4 ^ d
  | .lf s, d, f, st, _ => by rw [Tr.ends]; exact Nat.pow_pos (by decide)
  | .nd ts, 0, _, _, h => by rw [Tr.fit] at h; exact h.elim
  | .nd ts, d + 1, f, st, h => by
    rw [Tr.fit] at h
    rw [Tr.ends, Nat.pow_succ, Nat.mul_comm (4 ^ d)]
    exact Nat.le_trans (endsL_count ts d f st _ 0 h.2.2) (Nat.mul_le_mul_right _ h.2.1)
theorem endsL_count : ∀ (ts : List Tr) (d f st w i : Nat), fitL ts d → (endsL ts f st w i).length ≤ ts.length * 4 ^ d
  | [], d, _, _, _, _, _ => by rw [endsL]; simp
  | t :: ts, d, f, st, w, i, h => by
    rw [fitL] at h
    rw [endsL, List.length_append, List.length_cons, Nat.add_mul]
    have h1 := ends_count t d (f + st * i) w h.1
    have h2 := endsL_count ts d f st w (i + 1) h.2
    omega
end
theorem fitL_take : ∀ (ts : List Tr) (d i : Nat), fitL ts d → fitL (ts.take i) d
  | [], d, i, _ => by rw [List.take_nil, fitL]; trivial
  | t :: ts, d, 0, _ => by rw [List.take_zero, fitL]; trivial
  | t :: ts, d, i + 1, h => by
    rw [fitL] at h
    rw [List.take_succ_cons, fitL]
    exact ⟨h.1, fitL_take ts d i h.2⟩
end Pt
namespace Tn
open PySem PySem.Spec PyProof.Rows L2
mutual
/-- the value v is the tree t -/
def TrAt (H : Hp) : V → Pt.Tr → Prop
  | v, .lf s => v = .str s
  | v, .nd ts => ∃ (a : Addr) (vs : List V), v = .ref a ∧ H a = some (.tup vs) ∧ TrAtL H vs ts
def TrAtL (H : Hp) : List V → List Pt.Tr → Prop
  | vs, [] => vs = []
  | vs, t :: ts => ∃ v r, vs = v :: r ∧ TrAt H v t ∧ TrAtL H r ts
end
/-- the tuples stand -/
def ExtU (H H' : Hp) : Prop := ∀ a vs, H a = some (.tup vs) → H' a = some (.tup vs)
theorem ExtU.refl (H : Hp) : ExtU H H := fun _ _ h => h
theorem ExtU.trans {H H1 H2 : Hp} (x : ExtU H H1) (y : ExtU H1 H2) : ExtU H H2 := fun a vs h => y a vs (x a vs h)
theorem ExtU.of {H H' : Hp} (x : Evl.Ex H H') : ExtU H H' := fun a vs h => x a _ h
theorem ExtU.new {H : Hp} {p : Addr} {o : HO} (h : H p = none) : ExtU H (upd H p o) := .of (Evl.Ex.new h)
theorem ExtU.lst {H : Hp} {p : Addr} {xs : List V} {o : HO} (h : H p = some (.lst xs)) : ExtU H (upd H p o) := fun a vs e => by
  rw [upd_ne]
  · exact e
  · intro z; subst z; rw [h] at e; cases e
theorem Exb.u {cc b : Addr} {H H' : Hp} (x : Exb b H H') (B : Bag cc H b) : ExtU H H' := fun a vs h => by
  obtain ⟨ns, pos, big, seed, n, hc, hb, hs⟩ := B
  refine x a _ ?_ h
  intro z; subst z; rw [hb] at h; cases h
mutual
theorem TrAt.up {H H' : Hp} (x : ExtU H H') : ∀ (t : Pt.Tr) (v : V), TrAt H v t → TrAt H' v t
  | .lf s, v, h => by rw [TrAt] at h ⊢; exact h
  | .nd ts, v, h => by
    rw [TrAt] at h ⊢
    obtain ⟨a, vs, e, ha, hl⟩ := h
    exact ⟨a, vs, e, x a vs ha, TrAtL.up x ts vs hl⟩
theorem TrAtL.up {H H' : Hp} (x : ExtU H H') : ∀ (ts : List Pt.Tr) (vs : List V), TrAtL H vs ts → TrAtL H' vs ts
  | [], vs, h => by rw [TrAtL] at h ⊢; exact h
  | t :: ts, vs, h => by
    rw [TrAtL] at h ⊢
    obtain ⟨v, r, e, h1, h2⟩ := h
    exact ⟨v, r, e, TrAt.up x t v h1, TrAtL.up x ts r h2⟩
end
theorem TrAtL.len {H : Hp} : ∀ (ts : List Pt.Tr) (vs : List V), TrAtL H vs ts → vs.length = ts.length
  | [], vs, h => by rw [TrAtL] at h; rw [h]; rfl
  | t :: ts, vs, h => by
    rw [TrAtL] at h
    obtain ⟨v, r, rfl, h1, h2⟩ := h
    rw [List.length_cons, List.length_cons, TrAtL.len ts r h2]
theorem TrAtL.get {H : Hp} : ∀ (ts : List Pt.Tr) (vs : List V) (i : Nat) (t : Pt.Tr), TrAtL H vs ts → ts[i]? = some t → ∃ v, vs[i]? = some v ∧ TrAt H v t
  | [], vs, i, t, h, e => by simp at e
  | a :: ts, vs, 0, t, h, e => by
    rw [TrAtL] at h
    obtain ⟨v, r, rfl, h1, h2⟩ := h
    have := Option.some.inj e
    subst this
    exact ⟨v, rfl, h1⟩
  | a :: ts, vs, i + 1, t, h, e => by
    rw [TrAtL] at h
    obtain ⟨v, r, rfl, h1, h2⟩ := h
    exact TrAtL.get ts r i t h2 e
theorem TrAtL.app {H : Hp} : ∀ (ts us : List Pt.Tr) (vs ws : List V), TrAtL H vs ts → TrAtL H ws us → TrAtL H (vs ++ ws) (ts ++ us)
  | [], us, vs, ws, h, k => by rw [TrAtL] at h; subst h; exact k
  | t :: ts, us, vs, ws, h, k => by
    rw [TrAtL] at h
    obtain ⟨v, r, rfl, h1, h2⟩ := h
    show TrAtL H (v :: (r ++ ws)) (t :: (ts ++ us))
    rw [TrAtL]
    exact ⟨v, _, rfl, h1, TrAtL.app ts us r ws h2 k⟩
theorem TrAtL.one {H : Hp} {v : V} {t : Pt.Tr} (h : TrAt H v t) : TrAtL H [v] [t] := by
  rw [TrAtL]
  exact ⟨v, [], rfl, h, by rw [TrAtL]⟩
theorem TrAt.lf {H : Hp} {v : V} {s : Str} (h : TrAt H v (.lf s)) : v = .str s := by rw [TrAt] at h; exact h
theorem TrAt.nd {H : Hp} {v : V} {ts : List Pt.Tr} (h : TrAt H v (.nd ts)) : ∃ (a : Addr) (vs : List V), v = .ref a ∧ H a = some (.tup vs) ∧ TrAtL H vs ts := by rw [TrAt] at h; exact h
theorem TrAt.mk {H : Hp} {s : Str} : TrAt H (.str s) (.lf s) := by rw [TrAt]
theorem TrAt.mkN {H : Hp} {a : Addr} {vs : List V} {ts : List Pt.Tr} (h : H a = some (.tup vs)) (k : TrAtL H vs ts) : TrAt H (.ref a) (.nd ts) := by rw [TrAt]; exact ⟨a, vs, rfl, h, k⟩
/-! ### isinstance -/
section
variable {K : PySem.W.Frag} {H : Hp} {Q : VK} {s : Str} {a : Addr} {vs : List V}
theorem isi_ss (h : Q (.bl true) H) : rIsi K [.str s, .ty "str"] H Q := ⟨_, _, _, _, true, rfl, .ty _, .base (.str s), kit_ty (by decide +kernel), h⟩
theorem isi_ns (e : H a = some (.tup vs)) (h : Q (.bl false) H) : rIsi K [.ref a, .ty "str"] H Q := ⟨_, _, _, _, false, rfl, .ty _, .base (.tup e), kit_ty (by decide +kernel), h⟩
theorem isi_st (h : Q (.bl false) H) : rIsi K [.str s, .ty "tuple"] H Q := ⟨_, _, _, _, false, rfl, .ty _, .base (.str s), kit_ty (by decide +kernel), h⟩
theorem isi_nt (e : H a = some (.tup vs)) (h : Q (.bl true) H) : rIsi K [.ref a, .ty "tuple"] H Q := ⟨_, _, _, _, true, rfl, .ty _, .base (.tup e), kit_ty (by decide +kernel), h⟩
end
/-- a promise of nothing -/
theorem ok_never {P : Program} {w : World} {K : PySem.W.Frag} {mg : Str → Option Value} {base : Heap} {CX : CXT} {k : Nat} {f : Addr} {fd : FuncData} {ps : List Str} : FnOk P w K mg base CX k f fd ps (fun _ _ _ _ => False) := ⟨fun _ _ _ _ h => h.elim, fun _ _ _ _ _ _ _ _ _ _ _ _ _ h => h.elim⟩
end Tn
/-! The law's trees. -/
namespace Tn
open PySem PySem.Spec PyProof.Rows L2
abbrev sLtree : Stmt := top 35
abbrev nLtree : List Str := ["_law_bag_here", "_law_pool", "_law_deep", "_law_widest", "_law_k"]
abbrev psLtree : List Str := ["_law_bag_here", "_law_pool", "_law_deep", "_law_widest"]
theorem scLtree : FnScope nLtree psLtree (defScope sLtree) := ⟨rfl, rfl, rfl, by decide +kernel, rfl, by decide +kernel, by decide +kernel⟩
def spLtree (d : Nat) : Sp := fun vs H Q _ => ∃ (b cc p : Addr) (ss : List Str) (wd : Nat), vs = [.ref b, .ref p, .int d, .int wd] ∧ Bag cc H b ∧ p ≠ b ∧ H p = some (.lst (ss.map V.str)) ∧ 0 < ss.length ∧ ss.length ≤ 1000 ∧ (∀ s ∈ ss, Pt.GoodS s) ∧ 2 ≤ wd ∧ wd ≤ 4 ∧
  ∀ (v : V) (t : Pt.Tr) H', Exb b H H' → Bag cc H' b → TrAt H' v t → t.fit d → Q v H'
theorem Exb.mut {b D : Addr} {H H' : Hp} {o : HO} (x : Exb b H H') (h : H D = none) : Exb b H (L2.upd H' D o) := fun a u n e => by
  rw [upd_ne (ne_of_none e h)]; exact x a u n e
theorem Bag.mut {cc b D : Addr} {H : Hp} {o : HO} (B : Bag cc H b) (n1 : b ≠ D) (n2 : cc ≠ D) : Bag cc (L2.upd H D o) b := by
  obtain ⟨ns, pos, big, seed, n, hc, hb, hs⟩ := B
  exact ⟨ns, pos, big, seed, n, by rw [upd_ne n2]; exact hc, by rw [upd_ne n1]; exact hb, hs⟩
theorem Bag.nc {cc b q : Addr} {H : Hp} (B : Bag cc H b) (h : H q = none) : cc ≠ q := by
  obtain ⟨ns, pos, big, seed, n, hc, hb, hs⟩ := B
  exact ne_of_none hc h
section
variable {P : Program} {w : World} {K : PySem.W.Frag} {mg : Str → Option Value} {base : Heap} {f fPull fOf : Addr} {fd fdPull fdOf : FuncData}
theorem ltree_step (F : FnP K "_law_tree" sLtree f fd) (FPull : FnP K "_law_pull" sPull fPull fdPull) (FOf : FnP K "_law_of" sOf fOf fdOf) (gLen : mg "len" = none) (gRange : mg "range" = none) (gTuple : mg "tuple" = none) (gPull : mg "_law_pull" = some (.ref fPull)) (gOf : mg "_law_of" = some (.ref fOf)) (gRec : mg "_law_tree" = some (.ref f))
    (d k : Nat) (hk : 2 ≤ k) (spR : Sp) (GRec : FnOk P w K mg base CX0 k f fd psLtree spR) (hR : ∀ d', d = d' + 1 → spR = spLtree d') : FnOk P w K mg base CX0 (k + 1) f fd psLtree (spLtree d) := by
  have GPull : FnOk P w K mg base CX0 1 fPull fdPull ["_law_bag_here", "_law_amount"] spPull := ok_pull FPull gLen
  have bPull : Binds K fdPull ["_law_bag_here", "_law_amount"] [] := FPull.bindsN fun _ _ _ _ _ _ us hl => match us, hl with | [_, _], _ => rfl
  have GOf : FnOk P w K mg base CX0 2 fOf fdOf ["_law_bag_here", "_law_things"] spOf := ok_of FOf FPull gLen gPull
  have bOf : Binds K fdOf ["_law_bag_here", "_law_things"] [] := FOf.bindsN fun _ _ _ _ _ _ us hl => match us, hl with | [_, _], _ => rfl
  have FRec := F
  have bRec : Binds K fd psLtree [] := F.bindsN fun _ _ _ _ _ _ us hl => match us, hl with | [_, _, _, _], _ => rfl
  refine F.ok scLtree (fun vs H Q E h => ?_) (fun cdv A outer s H vs Q E hr h => ⟨_, PSs.nox (pss_cons (ps_if (PW.pt (pw_or (pt_cmpR op_eq (pv 2) pe_int (nomark _)) (pw_or1 (pt_cmpR op_eq (pe_call GPull (hr.mono (by omega)) rfl gPull FPull.kp bPull .nil pass0 (pa_cons (pv 0) (pa_cons pe_int pa_nil))) pe_int (nomark _)))))
        (pss_one (ps_ret (pe_call GOf (hr.mono (by omega)) rfl gOf FOf.kp bOf .nil pass0 (pa_cons (pv 0) (pa_cons (pv 1) pa_nil)))))
        pss_nil)
        (pss_one (ps_ret (pe_callTy call_tuple_of (by rfl) gTuple (by decide +kernel) (pa_cons (pe_lc (own := [("_law_k", 4)]) (g := (gName 4)) (tt := tYes) rfl scLtree.nd (pi_range1 rfl gRange (pa_cons (pe_op op_add pe_int (pe_call GPull (hr.mono (by omega)) rfl gPull FPull.kp bPull .nil pass0 (pa_cons (pv 0) (pa_cons (pe_op op_sub (pv 3) pe_int) pa_nil)))) pa_nil)) (blkOk_by (N := nLtree) (sc := defScope sLtree) (by decide +kernel)) (fun _ _ _ _ _ => (pg_name (i := 4) scLtree.nd rfl (Or.inl rfl))) (fun _ _ _ _ _ => pts_nil) (fun _ _ _ _ _ => (pe_call GRec hr rfl gRec FRec.kp bRec .nil pass0 (pa_cons (pv 0) (pa_cons (pv 1) (pa_cons (pe_op op_sub (pv 2) pe_int) (pa_cons (pv 3) pa_nil))))))) pa_nil))))), ?_⟩)
  · obtain ⟨b, _, p, ss, wd, rfl, _⟩ := h
    rfl
  · obtain ⟨b, cc, p, ss, wd, rfl, hB, hpb, hp, h0, h1, hss, hw2, hw4, hQ⟩ := h
    have leaf : ∀ H1, Exb b H H1 → Bag cc H1 b → ∀ D : Ends, (∀ v H', Q v H' → D.rt v H') → tRet (tCall spOf [] E0 (tCons (tVar 0) (tCons (tVar 1) tNil))) D (L2.start nLtree [.ref b, .ref p, .int d, .int wd]) H1 := fun H1 x1 B1 D hD => by
      refine ⟨_, rfl, _, rfl, b, cc, .ref p, rfl, B1, .inl ⟨p, _, rfl, hpb, x1 p _ hpb hp, by rw [List.length_map]; exact h0, by rw [List.length_map]; exact h1, fun r v H' hv x2 B2 => ?_⟩⟩
      rw [List.getElem?_map] at hv
      obtain ⟨s, hs, rfl⟩ := Option.map_eq_some_iff.mp hv
      exact hD _ _ (hQ _ (.lf s) H' (x1.trans x2) B2 TrAt.mk (by rw [Pt.Tr.fit]; exact hss s (List.mem_of_getElem? hs)))
    refine ⟨_, rfl, rfl, _, rfl, ite2 (fun hd => ?_) fun hd => ?_⟩
    · exact leaf H (Exb.refl b H) hB _ fun _ _ q => q
    obtain ⟨d', rfl⟩ : ∃ d', d = d' + 1 := ⟨d - 1, by
      have : ¬ (d : Int) = 0 := fun z => hd (decide_eq_true (congrArg V.int z))
      omega⟩
    have eR := hR d' rfl
    subst eR
    refine ⟨_, rfl, b, cc, 4, rfl, hB, by decide, by decide, fun r H1 hr4 x1 B1 => ⟨rfl, _, rfl, ite2 (fun hz => ?_) fun hz => ?_⟩⟩
    · exact leaf H1 x1 B1 _ fun _ _ q => q
    refine ⟨_, rfl, _, rfl, _, _, rfl, rfl, b, cc, wd - 1, ?_, B1, by omega, by omega, fun r2 H2 hr2 x2 B2 => ⟨_, _, rfl, rfl, ((2 + r2 : Nat) : Int), rfl, by omega, by omega, fun D hD => ?_⟩⟩
    · rw [show ((wd - 1 : Nat) : Int) = (wd : Int) - 1 by omega]; rfl
    have xx := x1.trans x2
    have hp2 := xx p _ hpb hp
    have nD : b ≠ D := B2.ne hD
    have nD2 : cc ≠ D := B2.nc hD
    have nD3 : p ≠ D := ne_of_none hp2 hD
    have hD0 : H D = none := xx.back B2 hD
    refine lc_range (lo := 0) (n := 2 + r2) (fun i H' => Exb b H H' ∧ Bag cc H' b ∧ ∃ (vs : List V) (ts : List Pt.Tr), H' D = some (.lst vs) ∧ TrAtL H' vs ts ∧ vs.length = i ∧ Pt.fitL ts d') ⟨xx.trans (Exb.new hD), B2.new hD, [], [], upd_same, by rw [TrAtL], rfl, by rw [Pt.fitL]; trivial⟩ ?_ ?_
    · rintro i H' hi ⟨hx, hB', vs, ts, hv, hT, hl, hf⟩
      refine ⟨rfl, t_yes ?_⟩
      refine ⟨_, rfl, _, rfl, _, rfl, _, _, rfl, rfl, _, rfl, b, cc, p, ss, wd, ?_, hB', hpb, hx p _ hpb hp, h0, h1, hss, hw2, hw4, fun v t H3 x3 B3 hT3 hf3 => ?_⟩
      · have : ((d' + 1 : Nat) : Int) - 1 = (d' : Int) := by omega
        rw [← this]; rfl
      have hD3 := x3 D _ nD.symm hv
      refine ⟨vs, hD3, Evl.sz_lt (by omega), (hx.trans x3).mut hD0, B3.mut nD nD2, vs ++ [v], ts ++ [t], upd_same, ?_, by rw [List.length_append, hl]; rfl, (Pt.fitL_app ts [t] d').mpr ⟨hf, by rw [Pt.fitL, Pt.fitL]; exact ⟨hf3, trivial⟩⟩⟩
      exact TrAtL.up (ExtU.lst hD3) _ _ (TrAtL.app _ _ _ _ (TrAtL.up (x3.u hB') _ _ hT) (TrAtL.one hT3))
    · rintro H' ⟨hx, hB', vs, ts, hv, hT, hl, hf⟩
      refine ⟨D, vs, rfl, .inl ⟨Evl.sq_of hv, fun l hl' => ?_⟩⟩
      have hlen := TrAtL.len _ _ hT
      refine hQ (.ref l) (.nd ts) _ (hx.trans (Exb.new hl')) (hB'.new hl') (TrAt.mkN upd_same (TrAtL.up (ExtU.new hl') _ _ hT)) ?_
      rw [Pt.Tr.fit]
      exact ⟨by omega, by omega, hf⟩
theorem ok_ltree (F : FnP K "_law_tree" sLtree f fd) (FPull : FnP K "_law_pull" sPull fPull fdPull) (FOf : FnP K "_law_of" sOf fOf fdOf) (gLen : mg "len" = none) (gRange : mg "range" = none) (gTuple : mg "tuple" = none) (gPull : mg "_law_pull" = some (.ref fPull)) (gOf : mg "_law_of" = some (.ref fOf)) (gRec : mg "_law_tree" = some (.ref f)) :
    ∀ d, FnOk P w K mg base CX0 (3 + d) f fd psLtree (spLtree d)
  | 0 => ltree_step F FPull FOf gLen gRange gTuple gPull gOf gRec 0 2 (by decide) _ ok_never fun _ z => nomatch z
  | d + 1 => ltree_step F FPull FOf gLen gRange gTuple gPull gOf gRec (d + 1) (3 + d) (by omega) _ (ok_ltree F FPull FOf gLen gRange gTuple gPull gOf gRec d) fun d' z => by cases z; rfl
end
end Tn
/-! is_equal: what True means. -/
namespace Pt
open PySem

mutual
theorem take_ok : ∀ (t : Tr) (f st : Nat), t.ok → (t.take f st).ok
  | .lf s, f, st, _ => by rw [Tr.take, Tr.ok]; trivial
  | .nd ts, f, st, h => by
    rw [Tr.ok] at h
    have hm : 0 < ts.length := List.length_pos_iff.mpr h.1
    have hg0 : 0 < Nat.gcd ts.length st := Nat.gcd_pos_of_pos_left _ hm
    have hc0 : 0 < ts.length / Nat.gcd ts.length st := Nat.div_pos (Nat.le_of_dvd hm (Nat.gcd_dvd_left _ _)) hg0
    have at_ := takeAt_ok ts
    have okl : ∀ l : List Tr, (∀ t ∈ l, t.ok) → okL l := fun l => by
      induction l with
      | nil => intro _; rw [okL]; trivial
      | cons a l ih => intro q; rw [okL]; exact ⟨q a List.mem_cons_self, ih fun t ht => q t (List.mem_cons_of_mem _ ht)⟩
    rw [Tr.take]
    split
    · exact at_ _ _ _ h.2
    · rw [Tr.ok]
      refine ⟨fun z => ?_, okl _ fun t ht => ?_⟩
      · have := congrArg List.length z
        rw [List.length_map, List.length_range, List.length_nil] at this
        rw [this] at hc0
        exact absurd hc0 (by decide)
      · obtain ⟨k, _, e⟩ := List.mem_map.mp ht
        rw [← e]
        exact at_ _ _ _ h.2
theorem takeAt_ok : ∀ (ts : List Tr) (i f st : Nat), okL ts → (takeAt ts i f st).ok
  | [], i, _, _, _ => by rw [takeAt, Tr.ok]; trivial
  | t :: ts, 0, f, st, h => by
    rw [okL] at h
    rw [takeAt]; exact take_ok t f st h.1
  | t :: ts, i + 1, f, st, h => by
    rw [okL] at h
    rw [takeAt]; exact takeAt_ok ts i f st h.2
end
theorem hits_mem (n : Str) (x : Nat) : ∀ (l : List End), 0 < hits n l x → ∃ e ∈ l, e.2.2 = n ∧ hit e x
  | [], h => by simp [hits] at h
  | e :: l, h => by
    rw [hits] at h
    by_cases q : e.2.2 = n ∧ hit e x
    · exact ⟨e, List.mem_cons_self, q⟩
    · unfold one at h
      rw [if_neg q, Nat.zero_add] at h
      obtain ⟨e2, h2, h3⟩ := hits_mem n x l h
      exact ⟨e2, List.mem_cons_of_mem _ h2, h3⟩
/-- the end that holds x -/
theorem end_of (t : Tr) (h : t.ok) (x : Nat) : ∃ e ∈ t.ends 0 1, e.2.2 = t.own x ∧ ∃ j, x = e.1 + e.2.1 * j := by
  have e0 := ends_on (t.own x) t 0 1 x (by decide) h
  rw [Nat.zero_add, Nat.one_mul, if_pos rfl] at e0
  obtain ⟨e, he, h1, h2⟩ := hits_mem (t.own x) x _ (by rw [e0]; decide)
  exact ⟨e, he, h1, (hit_iff (ends_pos t 0 1 (by decide) h e he) e.2.2).mp h2⟩
def isEq (t u : Tr) : Prop := ∀ e ∈ t.ends 0 1, ∀ r ∈ (u.take e.1 e.2.1).ends 0 1, r.2.2 = e.2.2
theorem isEq_own {t u : Tr} (h : t.ok) (k : u.ok) (q : isEq t u) (x : Nat) : u.own x = t.own x := by
  obtain ⟨e, he, h1, j, rfl⟩ := end_of t h x
  obtain ⟨r, hr, h2, _⟩ := end_of (u.take e.1 e.2.1) (take_ok u _ _ k) j
  rw [← h1, ← q e he r hr, h2, take_own u _ _ _ k]
/-- a shift that is_equal has found is a period -/
theorem period_of {t : Tr} (h : t.ok) {p : Nat} (q : isEq t (t.take p 1)) (x : Nat) : t.own (x + p) = t.own x := by
  have e := isEq_own h (take_ok t p 1 h) q x
  rw [take_own t p 1 x h, Nat.one_mul, Nat.add_comm] at e
  exact e
end Pt
/-! period: the common multiple, then what divides out. -/
namespace Pt
open PySem

def lcmF : List End → Nat → Nat
  | [], a => a
  | e :: l, a => lcmF l (a / Nat.gcd a e.2.1 * e.2.1)
theorem lcm_step {a b : Nat} (ha : 0 < a) (hb : 0 < b) : 0 < a / Nat.gcd a b * b ∧ a ∣ a / Nat.gcd a b * b ∧ b ∣ a / Nat.gcd a b * b := by
  have hg : 0 < Nat.gcd a b := Nat.gcd_pos_of_pos_left _ ha
  obtain ⟨x, hx⟩ := Nat.gcd_dvd_left a b
  obtain ⟨y, hy⟩ := Nat.gcd_dvd_right a b
  generalize Nat.gcd a b = g at hg hx hy ⊢
  have e : a / g = x := by rw [hx, Nat.mul_div_cancel_left _ hg]
  rw [e]
  have hx0 : 0 < x := Nat.pos_of_ne_zero fun z => by rw [z, Nat.mul_zero] at hx; omega
  refine ⟨Nat.mul_pos hx0 hb, ⟨y, ?_⟩, Nat.dvd_mul_left _ _⟩
  rw [hx, hy, Nat.mul_left_comm, Nat.mul_assoc]
theorem lcmF_ok : ∀ (l : List End) (a : Nat), 0 < a → (∀ e ∈ l, 0 < e.2.1) → 0 < lcmF l a ∧ a ∣ lcmF l a ∧ ∀ e ∈ l, e.2.1 ∣ lcmF l a
  | [], a, ha, _ => ⟨ha, Nat.dvd_refl _, fun e he => nomatch he⟩
  | e :: l, a, ha, h => by
    obtain ⟨s1, s2, s3⟩ := lcm_step ha (h e List.mem_cons_self)
    obtain ⟨r1, r2, r3⟩ := lcmF_ok l _ s1 fun e he => h e (List.mem_cons_of_mem _ he)
    rw [lcmF]
    refine ⟨r1, Nat.dvd_trans s2 r2, fun e2 he => ?_⟩
    rcases List.mem_cons.mp he with rfl | he
    · exact Nat.dvd_trans s3 r2
    · exact r3 e2 he
def prodL : List Nat → Nat
  | [] => 1
  | p :: l => p * prodL l
open Classical in
noncomputable def redF (t : Tr) : List Nat → Nat → Nat
  | [], a => a
  | p :: l, a => if isEq t (t.take (a / p) 1) then redF t l (a / p) else redF t l a
theorem redF_ok {t : Tr} (h : t.ok) : ∀ (l : List Nat) (a : Nat), 0 < a → prodL l ∣ a → (∀ x, t.own (x + a) = t.own x) → 0 < redF t l a ∧ redF t l a ∣ a ∧ ∀ x, t.own (x + redF t l a) = t.own x
  | [], a, ha, _, hp => ⟨ha, Nat.dvd_refl _, hp⟩
  | p :: l, a, ha, hd, hp => by
    rw [prodL] at hd
    obtain ⟨c, hc⟩ := hd
    have hp0 : 0 < p := Nat.pos_of_ne_zero fun z => by rw [z, Nat.zero_mul, Nat.zero_mul] at hc; omega
    rw [redF]
    split
    · rename_i q
      have e : a / p = prodL l * c := by rw [hc, Nat.mul_assoc, Nat.mul_div_cancel_left _ hp0]
      have a0 : 0 < a / p := Nat.pos_of_ne_zero fun z => by rw [e] at z; rw [Nat.mul_assoc, z, Nat.mul_zero] at hc; omega
      obtain ⟨r1, r2, r3⟩ := redF_ok h l (a / p) a0 ⟨c, e⟩ (period_of h q)
      exact ⟨r1, Nat.dvd_trans r2 (Nat.div_dvd_of_dvd ⟨prodL l * c, by rw [hc, Nat.mul_assoc]⟩), r3⟩
    · exact redF_ok h l a ha ⟨p * c, by rw [hc, Nat.mul_assoc, Nat.mul_left_comm]⟩ hp
/-- period's value: positive, a divisor of the common multiple, a period -/
theorem period_ok {t : Tr} (h : t.ok) {fs : List Nat} (hf : prodL fs = lcmF (t.ends 0 1) 1) : 0 < redF t fs (lcmF (t.ends 0 1) 1) ∧ redF t fs (lcmF (t.ends 0 1) 1) ∣ lcmF (t.ends 0 1) 1 ∧ ∀ x, t.own (x + redF t fs (lcmF (t.ends 0 1) 1)) = t.own x := by
  obtain ⟨l1, _, l3⟩ := lcmF_ok (t.ends 0 1) 1 (by decide) (ends_pos t 0 1 (by decide) h)
  exact redF_ok h fs _ l1 (by rw [hf]; exact Nat.dvd_refl _) (own_period t h _ l3)
end Pt
/-! The law's ends, gcd, width, tiny. -/
namespace Tn
open PySem PySem.Spec PyProof.Rows L2
abbrev sLends : Stmt := top 36
abbrev sLgcd : Stmt := top 37
abbrev sLwid : Stmt := top 38
abbrev sLtiny : Stmt := top 39
abbrev nLends : List Str := ["_law_tree_here", "_law_first", "_law_step", "_law_found", "_law_k"]
abbrev psLends : List Str := ["_law_tree_here", "_law_first", "_law_step"]
abbrev nLwid : List Str := ["_law_tree_here", "_law_found", "_law_first", "_law_step", "_law_owner"]
abbrev nLtiny : List Str := ["_law_bag_here", "_law_pool", "_law_tree_here"]
theorem scLends : FnScope nLends psLends (defScope sLends) := ⟨rfl, rfl, rfl, by decide +kernel, rfl, by decide +kernel, by decide +kernel⟩
theorem scLgcd : FnScope ["_law_one", "_law_other"] ["_law_one", "_law_other"] (defScope sLgcd) := ⟨rfl, rfl, rfl, by decide +kernel, rfl, by decide +kernel, by decide +kernel⟩
theorem scLwid : FnScope nLwid ["_law_tree_here"] (defScope sLwid) := ⟨rfl, rfl, rfl, by decide +kernel, rfl, by decide +kernel, by decide +kernel⟩
theorem scLtiny : FnScope nLtiny ["_law_bag_here", "_law_pool"] (defScope sLtiny) := ⟨rfl, rfl, rfl, by decide +kernel, rfl, by decide +kernel, by decide +kernel⟩
/-- an end as a tuple -/
def EndAt (H : Hp) (v : V) (e : Pt.End) : Prop := ∃ a, v = .ref a ∧ H a = some (.tup [.int e.1, .int e.2.1, .str e.2.2])
inductive EndsAt (H : Hp) : List V → List Pt.End → Prop
  | nil : EndsAt H [] []
  | cons {v e vs es} : EndAt H v e → EndsAt H vs es → EndsAt H (v :: vs) (e :: es)
theorem EndAt.up {H H' : Hp} (x : ExtU H H') {v : V} {e : Pt.End} (h : EndAt H v e) : EndAt H' v e := by
  obtain ⟨a, rfl, ha⟩ := h
  exact ⟨a, rfl, x a _ ha⟩
theorem EndsAt.up {H H' : Hp} (x : ExtU H H') {vs : List V} {es : List Pt.End} (h : EndsAt H vs es) : EndsAt H' vs es := by
  induction h with
  | nil => exact .nil
  | cons h _ ih => exact .cons (h.up x) ih
theorem EndsAt.app {H : Hp} {vs ws : List V} {es fs : List Pt.End} (h : EndsAt H vs es) (k : EndsAt H ws fs) : EndsAt H (vs ++ ws) (es ++ fs) := by
  induction h with
  | nil => exact k
  | cons h _ ih => exact .cons h ih
theorem EndsAt.len {H : Hp} {vs : List V} {es : List Pt.End} (h : EndsAt H vs es) : vs.length = es.length := by
  induction h with
  | nil => rfl
  | cons h _ ih => rw [List.length_cons, List.length_cons, ih]
theorem EndsAt.get {H : Hp} {vs : List V} {es : List Pt.End} (h : EndsAt H vs es) : ∀ (i : Nat) (v : V), vs[i]? = some v → ∃ e, es[i]? = some e ∧ EndAt H v e := by
  induction h with
  | nil => intro i v e; simp at e
  | cons h _ ih =>
    intro i v e
    cases i with
    | zero =>
      have := Option.some.inj e
      subst this
      exact ⟨_, rfl, h⟩
    | succ i => exact ih i v e
def spLends (d : Nat) : Sp := fun vs H Q _ => ∃ (v : V) (t : Pt.Tr) (fi st : Nat), vs = [v, .int fi, .int st] ∧ TrAt H v t ∧ t.fit d ∧ 0 < st ∧ st * 4 ^ d ≤ 100000 ∧
  ∀ (p : Addr) (ws : List V) H', H p = none → Evl.Ex H H' → H' p = some (.lst ws) → EndsAt H' ws (t.ends fi st) → Q (.ref p) H'
/-- the number of ends of a fit tree -/
def ecap : Nat → Nat
  | 0 => 1
  | d + 1 => 4 * ecap d
section
variable {P : Program} {w : World} {K : PySem.W.Frag} {mg : Str → Option Value} {base : Heap} {f fPull fOf : Addr} {fd fdPull fdOf : FuncData}
theorem lends_step (F : FnP K "_law_ends" sLends f fd) (gLen : mg "len" = none) (gRange : mg "range" = none) (gTuple : mg "tuple" = none) (gIsi : mg "isinstance" = none) (gRec : mg "_law_ends" = some (.ref f))
    (d k : Nat) (spR : Sp) (GRec : FnOk P w K mg base CX0 k f fd psLends spR) (hR : ∀ d', d = d' + 1 → spR = spLends d') : FnOk P w K mg base CX0 (k + 1) f fd psLends (spLends d) := by
  have FRec := F
  have bRec : Binds K fd psLends [] := F.bindsN fun _ _ _ _ _ _ us hl => match us, hl with | [_, _, _], _ => rfl
  refine F.ok scLends (fun vs H Q E h => ?_) (fun cdv A outer s H vs Q E hr h => ⟨_, PSs.nox (pss_cons (ps_if (pt_not (pt_val (pe_callB call_isi (by rfl) gIsi boot_isinstance (pa_cons (pv 0) (pa_cons (pe_bltn (v := .ty "tuple") (by rfl) gTuple (by decide +kernel) rfl) pa_nil)))))
        (pss_one (ps_ret (pe_lst (pa_cons (pe_tup (pa_cons (pv 1) (pa_cons (pv 2) (pa_cons (pv 0) pa_nil)))) pa_nil))))
        pss_nil)
        (pss_cons (ps_set (i := 3) scLends.nd rfl (Or.inl rfl) (pe_lst pa_nil))
        (pss_cons (ps_for ownx rfl (pi_range1 rfl gRange (pa_cons (pe_callB call_len (by rfl) gLen boot_len (pa_cons (pv 0) pa_nil)) pa_nil)) (pg_name (i := 4) scLends.nd rfl (Or.inl rfl))
        (pss_one (ps_set (i := 3) scLends.nd rfl (Or.inl rfl) (pe_op op_cat (pv 3) (pe_call GRec hr rfl gRec FRec.kp bRec .nil pass0 (pa_cons (pe_ix ix_tup (pv 0) (pv 4) fun _ _ => rfl) (pa_cons (pe_op op_add (pv 1) (pe_op op_mul (pv 2) (pv 4))) (pa_cons (pe_op op_mul (pv 2) (pe_callB call_len (by rfl) gLen boot_len (pa_cons (pv 0) pa_nil))) pa_nil))))))))
        (pss_one (ps_ret (pv 3)))))), ?_⟩)
  · obtain ⟨v, t, fi, st, rfl, _⟩ := h
    rfl
  · obtain ⟨v, t, fi, st, rfl, hT, hf, hs0, hst, hQ⟩ := h
    cases t with
    | lf s =>
      have e := hT.lf
      subst e
      refine ⟨_, rfl, _, _, _, _, false, rfl, .ty _, .base (.str s), kit_ty (by decide +kernel), _, rfl, iteT ?_⟩
      refine ⟨_, rfl, _, rfl, _, rfl, by show 3 ≤ sizeLine; decide, fun p hp => ⟨by show 1 ≤ sizeLine; decide, fun q hq => ?_⟩⟩
      refine hQ q [.ref p] _ (Evl.fresh_back (Evl.Ex.new hp) hq) ((Evl.Ex.new hp).trans (Evl.Ex.new hq)) upd_same ?_
      rw [Pt.Tr.ends]
      exact .cons ⟨p, rfl, by rw [upd_ne (ne_of_none upd_same hq), upd_same]⟩ .nil
    | nd ts =>
      obtain ⟨a, vs, rfl, ha, hl⟩ := hT.nd
      have hlen := TrAtL.len _ _ hl
      cases d with
      | zero => rw [Pt.Tr.fit] at hf; exact hf.elim
      | succ d' =>
      have eR := hR d' rfl
      subst eR
      rw [Pt.Tr.fit] at hf
      obtain ⟨hf2, hf4, hfl⟩ := hf
      refine ⟨_, rfl, _, _, _, _, true, rfl, .ty _, .base (.tup ha), kit_ty (by decide +kernel), _, rfl, iteF ?_⟩
      refine ⟨by show 0 ≤ sizeLine; decide, fun p0 hp0 => ?_⟩
      have ha0 : (upd H p0 (.lst [])) a = some (.tup vs) := by rw [upd_ne (ne_of_none ha hp0)]; exact ha
      refine ⟨_, rfl, .ref a, _, rfl, .inr ⟨vs, Evl.st_of ha0, rfl⟩, (vs.length : Int), rfl, by omega, by omega, ?_⟩
      refine for_range (lo := 0) (n := vs.length) (fun i σ H' => Evl.Ex H H' ∧ ∃ (p : Addr) (ws : List V) (c : Option V), H p = none ∧ H' p = some (.lst ws) ∧ EndsAt H' ws (Pt.endsL (ts.take i) fi st (st * ts.length) 0) ∧ σ = [some (.ref a), some (.int fi), some (.int st), some (.ref p), c]) ?_ ?_ ?_
      · exact ⟨Evl.Ex.new hp0, p0, [], none, hp0, upd_same, by rw [List.take_zero, Pt.endsL]; exact .nil, rfl⟩
      · rintro i σ H' hi ⟨hx, p, ws, c, hp, hws, hE, rfl⟩
        have hits : i < ts.length := by omega
        obtain ⟨v, hv, hTv⟩ := TrAtL.get _ _ i ts[i] hl (List.getElem?_eq_getElem hits)
        have hci := Nat.le_trans (Pt.endsL_count (ts.take i) d' fi st (st * ts.length) 0 (Pt.fitL_take ts d' i hfl)) (Nat.mul_le_mul_right (4 ^ d') (List.length_take_le i ts))
        have hct := Pt.ends_count ts[i] d' (fi + st * i) (st * ts.length) (Pt.fitL_get ts d' i _ hfl (List.getElem?_eq_getElem hits))
        have e4 : (i + 1) * 4 ^ d' ≤ 4 * 4 ^ d' := Nat.mul_le_mul_right _ (by omega)
        have e5 : 4 * 4 ^ d' ≤ st * 4 ^ (d' + 1) := by
          rw [Nat.pow_succ, Nat.mul_comm (4 ^ d')]
          exact Nat.le_mul_of_pos_left _ hs0
        have e6 : st * ts.length * 4 ^ d' ≤ st * 4 ^ (d' + 1) := by
          rw [Nat.pow_succ, Nat.mul_assoc, Nat.mul_comm (4 ^ d')]
          exact Nat.mul_le_mul_left _ (Nat.mul_le_mul_right _ hf4)
        rw [Nat.add_mul] at e4
        have hst1 : st ≤ 100000 := Nat.le_trans (Nat.le_mul_of_pos_right _ (Nat.pow_pos (by decide))) hst
        have ha' := hx a _ ha
        have ei : (0 : Int) + (i : Int) = (i : Int) := by omega
        have hv' : atI vs (0 + (i : Int)) = some v := by rw [ei]; exact atI_nat hv
        refine ⟨_, rfl, _, rfl, _, rfl, a, vs, _, v, rfl, rfl, Evl.st_of ha', hv', _, rfl, _, rfl, _, rfl, _, _, rfl, rfl, .inl ⟨?_, ?_⟩, _, _, rfl, rfl, _, rfl, _, rfl, .ref a, _, rfl, .inr ⟨vs, Evl.st_of ha', rfl⟩, _, _, rfl, rfl, .inl ⟨?_, ?_⟩, v, ts[i], fi + st * i, st * ts.length, ?_, TrAt.up (.of hx) _ _ hTv, Pt.fitL_get ts d' i _ hfl (List.getElem?_eq_getElem hits), Nat.mul_pos hs0 (by omega), Nat.le_trans e6 hst, fun p2 ws2 H2 hp2 x2 hws2 hE2 => ?_⟩
        · show -(2 ^ 64 : Int) < (st : Int); omega
        · show (st : Int) < 2 ^ 64; omega
        · show -(2 ^ 64 : Int) < (st : Int); omega
        · show (st : Int) < 2 ^ 64; omega
        · rw [ei, hlen]; rfl
        have l1 := hE.len
        have l2 := hE2.len
        refine ⟨p, p2, ws, ws2, rfl, rfl, x2 p _ hws, hws2, Evl.sz_of (by omega), fun q hq => ⟨(hx.trans x2).trans (Evl.Ex.new hq), q, ws ++ ws2, _, Evl.fresh_back (hx.trans x2) hq, upd_same, ?_, rfl⟩⟩
        rw [List.take_succ, List.getElem?_eq_getElem hits]
        show EndsAt _ _ (Pt.endsL (ts.take i ++ [ts[i]]) fi st (st * ts.length) 0)
        rw [Pt.endsL_snoc, Nat.zero_add, List.length_take, Nat.min_eq_left (Nat.le_of_lt hits)]
        exact ((hE.up (.of x2)).app hE2).up (ExtU.new hq)
      · rintro σ H' ⟨hx, p, ws, c, hp, hws, hE, rfl⟩
        refine ⟨_, rfl, hQ p ws H' hp hx hws ?_⟩
        rw [Pt.Tr.ends]
        rw [hlen, List.take_length] at hE
        exact hE
theorem ok_lends (F : FnP K "_law_ends" sLends f fd) (gLen : mg "len" = none) (gRange : mg "range" = none) (gTuple : mg "tuple" = none) (gIsi : mg "isinstance" = none) (gRec : mg "_law_ends" = some (.ref f)) :
    ∀ d, FnOk P w K mg base CX0 (2 + d) f fd psLends (spLends d)
  | 0 => lends_step F gLen gRange gTuple gIsi gRec 0 1 _ ok_never fun _ z => nomatch z
  | d + 1 => lends_step F gLen gRange gTuple gIsi gRec (d + 1) (2 + d) _ (ok_lends F gLen gRange gTuple gIsi gRec d) fun d' z => by cases z; rfl
end
end Tn
/-! The law's gcd, width, tiny. -/
namespace Pt
open PySem
theorem lcmF_app : ∀ (l m : List End) (a : Nat), lcmF (l ++ m) a = lcmF m (lcmF l a)
  | [], m, a => rfl
  | e :: l, m, a => by rw [List.cons_append, lcmF, lcmF, lcmF_app l m]
mutual
theorem ends_le : ∀ (t : Tr) (d f st : Nat), t.fit d → ∀ e ∈ t.ends f st, e.2.1 ≤ st * 4 ^ d
  | .lf s, d, f, st, _, e, he => by
    rw [Tr.ends] at he
    rw [List.mem_singleton.mp he]
    exact Nat.le_mul_of_pos_right _ (Nat.pow_pos (by decide))
  | .nd ts, 0, _, _, h, _, _ => by rw [Tr.fit] at h; exact h.elim
  | .nd ts, d + 1, f, st, h, e, he => by
    rw [Tr.fit] at h
    rw [Tr.ends] at he
    refine Nat.le_trans (endsL_le ts d f st _ 0 h.2.2 e he) ?_
    rw [Nat.pow_succ, Nat.mul_assoc, Nat.mul_comm (4 ^ d)]
    exact Nat.mul_le_mul_left _ (Nat.mul_le_mul_right _ h.2.1)
theorem endsL_le : ∀ (ts : List Tr) (d f st w i : Nat), fitL ts d → ∀ e ∈ endsL ts f st w i, e.2.1 ≤ w * 4 ^ d
  | [], _, _, _, _, _, _, e, he => by rw [endsL] at he; cases he
  | t :: ts, d, f, st, w, i, h, e, he => by
    rw [fitL] at h
    rw [endsL] at he
    rcases List.mem_append.mp he with he | he
    · exact ends_le t d _ w h.1 e he
    · exact endsL_le ts d f st w (i + 1) h.2 e he
end
end Pt
namespace Tn
open PySem PySem.Spec PyProof.Rows L2
def spLwid (d : Nat) : Sp := fun vs H Q _ => ∃ (v : V) (t : Pt.Tr), vs = [v] ∧ TrAt H v t ∧ t.fit d ∧ 4 ^ d ≤ 100000 ∧ ∀ H', Evl.Ex H H' → Q (.int (Pt.lcmF (t.ends 0 1) 1 : Nat)) H'
def spLtiny : Sp := fun vs H Q _ => ∃ (b cc p : Addr) (ss : List Str), vs = [.ref b, .ref p] ∧ Bag cc H b ∧ p ≠ b ∧ H p = some (.lst (ss.map V.str)) ∧ 0 < ss.length ∧ ss.length ≤ 1000 ∧ (∀ s ∈ ss, Pt.GoodS s) ∧
  ∀ (v : V) (t : Pt.Tr) H', Exb b H H' → Bag cc H' b → TrAt H' v t → t.fit 2 → Q v H'
theorem Bag.ex {cc b : Addr} {H H' : Hp} (B : Bag cc H b) (x : Evl.Ex H H') : Bag cc H' b := by
  obtain ⟨ns, pos, big, seed, n, hc, hb, hs⟩ := B
  exact ⟨ns, pos, big, seed, n, x _ _ hc, x _ _ hb, hs⟩
theorem ok_some {P : Program} {w : World} {K : PySem.W.Frag} {mg : Str → Option Value} {base : Heap} {CX : CXT} {k : Nat} {f : Addr} {fd : FuncData} {ps : List Str} {p : Nat → Prop} {sp : Nat → Sp} (h : ∀ i, p i → FnOk P w K mg base CX k f fd ps (sp i)) : FnOk P w K mg base CX k f fd ps (fun vs H Q E => ∃ i, p i ∧ sp i vs H Q E) :=
  ⟨fun vs H Q E ⟨i, hi, q⟩ => (h i hi).len vs H Q E q, fun A outer s H args us vs Q E hr he hb hv ⟨i, hi, q⟩ => (h i hi).run A outer s H args us vs Q E hr he hb hv q⟩
section
variable {P : Program} {w : World} {K : PySem.W.Frag} {mg : Str → Option Value} {base : Heap} {f fPull fOf fEnds fGcd fTree fWid : Addr} {fd fdPull fdOf fdEnds fdGcd fdTree fdWid : FuncData}
theorem ok_lgcd (F : FnP K "_law_gcd" sLgcd f fd) : FnOk P w K mg base CX0 1 f fd ["_law_one", "_law_other"] spDiv := by
  refine F.ok scLgcd (fun vs H Q E h => ?_) (fun cdv A outer s H vs Q E hr h => ⟨_, PSs.nox (pss_cons (ps_while ownx (pt_cmpR op_ne (pv 1) pe_int (nomark _))
        (pss_one (ps_par (i := 0) (j := 1) rfl scLgcd.nd rfl rfl (by decide) rfl rfl (pa_cons (pv 1) (pa_cons (pe_op op_mod (pv 0) (pv 1)) pa_nil)) (by rfl))))
        (pss_one (ps_ret (pv 0)))), ?_⟩)
  · obtain ⟨a, b, rfl, _⟩ := h
    rfl
  · obtain ⟨a, b, rfl, hQ⟩ := h
    refine while_by (fun σ H' => H' = H ∧ ∃ x y : Nat, σ = [some (.int x), some (.int y)] ∧ Nat.gcd y x = Nat.gcd b a) (fun σ _ => match σ with | [_, some (.int y)] => y.toNat | _ => 0) ⟨rfl, a, b, rfl, rfl⟩ ?_ ?_
    · rintro σ H' ⟨rfl, x, y, rfl, hg⟩
      refine ⟨_, rfl, rfl, _, rfl, ?_⟩
      by_cases hy : y = 0
      · subst hy
        rw [show decide (V.int ((0 : Nat) : Int) = V.int 0) = true from decide_eq_true rfl]
        dsimp only
        rw [if_neg (by decide)]
        refine ⟨_, rfl, ?_⟩
        rw [Nat.gcd_zero_left] at hg
        show Q (.int (x : Int)) _
        rw [hg]; exact hQ
      · rw [show decide (V.int (y : Int) = V.int 0) = false from decide_eq_false (fun z => hy (by injection z with z; omega))]
        dsimp only
        rw [if_pos (by decide)]
        refine ⟨_, rfl, _, rfl, _, rfl, _, _, rfl, rfl, by omega, _, _, rfl, ?_⟩
        refine ⟨⟨rfl, y, x % y, rfl, ?_⟩, ?_⟩
        · rw [← hg, Nat.gcd_rec y x]
        · show (((x : Int) % (y : Int))).toNat < ((y : Int)).toNat
          have := Nat.mod_lt x (by omega : 0 < y)
          omega
    · intro σ H Q Q' k h
      obtain ⟨x, e1, e2, b, e5, h3⟩ := h
      exact ⟨x, e1, e2, b, e5, k _ _ h3⟩
theorem ok_lwid (F : FnP K "_law_width" sLwid f fd) (FEnds : FnP K "_law_ends" sLends fEnds fdEnds) (FGcd : FnP K "_law_gcd" sLgcd fGcd fdGcd) (gLen : mg "len" = none) (gRange : mg "range" = none) (gTuple : mg "tuple" = none) (gIsi : mg "isinstance" = none) (gEnds : mg "_law_ends" = some (.ref fEnds)) (gGcd : mg "_law_gcd" = some (.ref fGcd)) (d : Nat) :
    FnOk P w K mg base CX0 (3 + d) f fd ["_law_tree_here"] (spLwid d) := by
  have GEnds : FnOk P w K mg base CX0 (2 + d) fEnds fdEnds psLends (spLends d) := ok_lends FEnds gLen gRange gTuple gIsi gEnds d
  have bEnds : Binds K fdEnds psLends [] := FEnds.bindsN fun _ _ _ _ _ _ us hl => match us, hl with | [_, _, _], _ => rfl
  have GGcd : FnOk P w K mg base CX0 1 fGcd fdGcd ["_law_one", "_law_other"] spDiv := ok_lgcd FGcd
  have bGcd : Binds K fdGcd ["_law_one", "_law_other"] [] := FGcd.bindsN fun _ _ _ _ _ _ us hl => match us, hl with | [_, _], _ => rfl
  rw [show 3 + d = (2 + d) + 1 by omega]
  refine F.ok scLwid (fun vs H Q E h => ?_) (fun cdv A outer s H vs Q E hr h => ⟨_, PSs.nox (pss_cons (ps_set (i := 1) scLwid.nd rfl (Or.inl rfl) pe_int)
        (pss_cons (ps_for ownx rfl (pi_list (pe_call GEnds hr rfl gEnds FEnds.kp bEnds .nil pass0 (pa_cons (pv 0) (pa_cons pe_int (pa_cons pe_int pa_nil))))) (pg_tup rfl (pgs_cons (pg_name (i := 2) scLwid.nd rfl (Or.inl rfl)) (pgs_cons (pg_name (i := 3) scLwid.nd rfl (Or.inl rfl)) (pgs_cons (pg_name (i := 4) scLwid.nd rfl (Or.inl rfl)) pgs_nil))))
        (pss_one (ps_set (i := 1) scLwid.nd rfl (Or.inl rfl) (pe_op op_mul (pe_op op_fdiv (pv 1) (pe_call GGcd (hr.mono (by omega)) rfl gGcd FGcd.kp bGcd .nil pass0 (pa_cons (pv 1) (pa_cons (pv 3) pa_nil)))) (pv 3)))))
        (pss_one (ps_ret (pv 1))))), ?_⟩)
  · obtain ⟨v, t, rfl, _⟩ := h
    rfl
  · obtain ⟨v, t, rfl, hT, hf, h4, hQ⟩ := h
    refine ⟨_, rfl, v, t, 0, 1, rfl, hT, hf, by decide, by omega, fun p ws H1 hp x1 hws hE => ⟨p, rfl, ⟨ws, Evl.sq_of hws⟩, ?_⟩⟩
    refine for_list (xs := ws) (fun i σ H' => Evl.Ex H H' ∧ H' p = some (.lst ws) ∧ EndsAt H' ws (t.ends 0 1) ∧ ∃ c1 c2 c3 : Option V, σ = [some v, some (.int (Pt.lcmF ((t.ends 0 1).take i) 1 : Nat)), c1, c2, c3]) ⟨x1, hws, hE, none, none, none, rfl⟩ ?_ ?_ ?_
    · rintro i σ H' _ ⟨_, h, _⟩
      exact Evl.sq_of h
    · rintro i x σ H' hx ⟨hxx, hw, hE, c1, c2, c3, rfl⟩
      obtain ⟨e, he, a, rfl, ha⟩ := hE.get i x hx
      have hm := List.mem_of_getElem? he
      have hle := Pt.ends_le t d 0 1 hf e hm
      have hpos := Pt.ends_pos t 0 1 (by decide) hf.ok e hm
      have hle' : e.2.1 ≤ 100000 := by omega
      refine ⟨a, _, rfl, Evl.st_of ha, rfl, _, _, rfl, _, _, rfl, _, _, rfl, rfl, ?_⟩
      refine ⟨_, rfl, _, rfl, _, rfl, _, e.2.1, rfl, _, _, rfl, rfl, ⟨?_, ?_⟩, _, rfl, _, _, rfl, rfl, .inr ⟨?_, ?_⟩, hxx, hw, hE, some (.int e.1), some (.int e.2.1), some (.str e.2.2), ?_⟩
      · have := Nat.gcd_pos_of_pos_left (Pt.lcmF ((t.ends 0 1).take i) 1) hpos
        show (0 : Int) < (_ : Nat)
        omega
      · have := Nat.gcd_le_left (Pt.lcmF ((t.ends 0 1).take i) 1) hpos
        show ((_ : Nat) : Int) < 1073741824
        omega
      · show -(2 ^ 64 : Int) < (e.2.1 : Int); omega
      · show (e.2.1 : Int) < 2 ^ 64; omega
      · rw [List.take_succ, he]
        show _ = [_, some (V.int (Pt.lcmF ((t.ends 0 1).take i ++ [e]) 1 : Nat)), some (.int e.1), some (.int e.2.1), some (.str e.2.2)]
        rw [Pt.lcmF_app, Pt.lcmF, Pt.lcmF, Nat.gcd_comm]
        rfl
    · rintro σ H' ⟨hxx, hw, hE', c1, c2, c3, rfl⟩
      have e := hE'.len
      rw [e, List.take_length]
      exact ⟨_, rfl, hQ H' hxx⟩
theorem ok_ltiny (F : FnP K "_law_tiny" sLtiny f fd) (FTree : FnP K "_law_tree" sLtree fTree fdTree) (FWid : FnP K "_law_width" sLwid fWid fdWid) (FEnds : FnP K "_law_ends" sLends fEnds fdEnds) (FGcd : FnP K "_law_gcd" sLgcd fGcd fdGcd) (FPull : FnP K "_law_pull" sPull fPull fdPull) (FOf : FnP K "_law_of" sOf fOf fdOf) (gLen : mg "len" = none) (gRange : mg "range" = none) (gTuple : mg "tuple" = none) (gIsi : mg "isinstance" = none)
    (gEnds : mg "_law_ends" = some (.ref fEnds)) (gGcd : mg "_law_gcd" = some (.ref fGcd)) (gPull : mg "_law_pull" = some (.ref fPull)) (gOf : mg "_law_of" = some (.ref fOf)) (gTree : mg "_law_tree" = some (.ref fTree)) (gWid : mg "_law_width" = some (.ref fWid)) :
    FnOk P w K mg base CX0 6 f fd ["_law_bag_here", "_law_pool"] spLtiny := by
  have GOf : FnOk P w K mg base CX0 2 fOf fdOf ["_law_bag_here", "_law_things"] spOf := ok_of FOf FPull gLen gPull
  have bOf : Binds K fdOf ["_law_bag_here", "_law_things"] [] := FOf.bindsN fun _ _ _ _ _ _ us hl => match us, hl with | [_, _], _ => rfl
  have GTree : FnOk P w K mg base CX0 5 fTree fdTree psLtree (fun vs H Q E => ∃ d, d ≤ 2 ∧ spLtree d vs H Q E) := ok_some fun d hd => (ok_ltree FTree FPull FOf gLen gRange gTuple gPull gOf gTree d).mono (by omega)
  have bTree : Binds K fdTree psLtree [] := FTree.bindsN fun _ _ _ _ _ _ us hl => match us, hl with | [_, _, _, _], _ => rfl
  have GWid : FnOk P w K mg base CX0 5 fWid fdWid ["_law_tree_here"] (spLwid 2) := ok_lwid FWid FEnds FGcd gLen gRange gTuple gIsi gEnds gGcd 2
  have bWid : Binds K fdWid ["_law_tree_here"] [] := FWid.bindsN fun _ _ _ _ _ _ us hl => match us, hl with | [_], _ => rfl
  refine F.ok scLtiny (fun vs H Q E h => ?_) (fun cdv A outer s H vs Q E hr h => ⟨_, PSs.nox (pss_cons (ps_set (i := 2) scLtiny.nd rfl (Or.inl rfl) (pe_call GTree hr rfl gTree FTree.kp bTree .nil pass0 (pa_cons (pv 0) (pa_cons (pv 1) (pa_cons (pe_call GOf (hr.mono (by decide)) rfl gOf FOf.kp bOf .nil pass0 (pa_cons (pv 0) (pa_cons (pe_lst (pa_cons pe_int (pa_cons pe_int (pa_cons pe_int pa_nil)))) pa_nil))) (pa_cons (pe_call GOf (hr.mono (by decide)) rfl gOf FOf.kp bOf .nil pass0 (pa_cons (pv 0) (pa_cons (pe_lst (pa_cons pe_int (pa_cons pe_int (pa_cons pe_int pa_nil)))) pa_nil))) pa_nil))))))
        (pss_one (ps_ret (pe_ifExp (pt_cmpR op_le (pe_call GWid hr rfl gWid FWid.kp bWid .nil pass0 (pa_cons (pv 2) pa_nil)) pe_int (nomark _)) (pv 2) (pe_ix ix_tup (pv 2) pe_int fun _ _ => rfl))))), ?_⟩)
  · obtain ⟨b, _, p, ss, rfl, _⟩ := h
    rfl
  · obtain ⟨b, cc, p, ss, rfl, hB, hpb, hp, h0, h1, hss, hQ⟩ := h
    refine ⟨_, rfl, _, rfl, _, rfl, by show 3 ≤ sizeLine; decide, fun q1 hq1 => ⟨b, cc, .ref q1, rfl, hB.new hq1, .inl ⟨q1, _, rfl, (hB.ne hq1).symm, upd_same, by decide, by decide, fun r1 v1 H1 hv1 x1 B1 => ?_⟩⟩⟩
    obtain ⟨d, rfl, hd⟩ : ∃ d : Nat, v1 = .int d ∧ d ≤ 2 := by
      have hm := List.mem_of_getElem? hv1
      simp only [List.mem_cons, List.not_mem_nil, or_false] at hm
      rcases hm with rfl | rfl | rfl
      · exact ⟨1, rfl, by decide⟩
      · exact ⟨2, rfl, by decide⟩
      · exact ⟨2, rfl, by decide⟩
    refine ⟨_, rfl, by show 3 ≤ sizeLine; decide, fun q2 hq2 => ⟨b, cc, .ref q2, rfl, B1.new hq2, .inl ⟨q2, _, rfl, (B1.ne hq2).symm, upd_same, by decide, by decide, fun r2 v2 H2 hv2 x2 B2 => ?_⟩⟩⟩
    obtain ⟨wd, rfl, hw2, hw4⟩ : ∃ d : Nat, v2 = .int d ∧ 2 ≤ d ∧ d ≤ 4 := by
      have hm := List.mem_of_getElem? hv2
      simp only [List.mem_cons, List.not_mem_nil, or_false] at hm
      rcases hm with rfl | rfl | rfl
      · exact ⟨2, rfl, by decide, by decide⟩
      · exact ⟨3, rfl, by decide, by decide⟩
      · exact ⟨4, rfl, by decide, by decide⟩
    have xx : Exb b H H2 := (Exb.new hq1).trans (x1.trans ((Exb.new hq2).trans x2))
    refine ⟨d, hd, b, cc, p, ss, wd, rfl, B2, hpb, xx p _ hpb hp, h0, h1, hss, hw2, hw4, fun v t H3 x3 B3 hT hf => ?_⟩
    have hf2 : t.fit 2 := by
      have e : d = 0 ∨ d = 1 ∨ d = 2 := by omega
      rcases e with rfl | rfl | rfl
      · exact (hf.up).up
      · exact hf.up
      · exact hf
    refine ⟨_, rfl, v, t, rfl, hT, hf2, by decide, fun H4 x4 => ⟨_, _, rfl, rfl, _, rfl, ite2 (fun h => ?_) fun h => ?_⟩⟩
    · exact ⟨_, rfl, hQ v t H4 (xx.trans (x3.trans fun a o _ e => x4 a o e)) (B3.ex x4) (TrAt.up (.of x4) _ _ hT) hf2⟩
    · cases t with
      | lf s =>
        exfalso
        refine h (decide_eq_true ?_)
        rw [Pt.Tr.ends, Pt.lcmF, Pt.lcmF]
        show ((1 / Nat.gcd 1 1 * 1 : Nat) : Int) ≤ 48
        decide
      | nd ts =>
        obtain ⟨a, vs, rfl, ha, hl⟩ := hT.nd
        rw [Pt.Tr.fit] at hf2
        obtain ⟨u, hu, hTu⟩ := TrAtL.get _ _ 0 ts[0] hl (List.getElem?_eq_getElem (by omega))
        refine ⟨_, rfl, a, vs, 0, u, rfl, rfl, Evl.st_of (x4 a _ ha), atI_nat hu, ?_⟩
        exact hQ u ts[0] H4 (xx.trans (x3.trans fun a o _ e => x4 a o e)) (B3.ex x4) (TrAt.up (.of x4) _ _ hTu) (Pt.Tr.fit.up _ _ (Pt.fitL_get ts 1 0 _ hf2.2.2 (List.getElem?_eq_getElem (by omega))))
end
end Tn
/-! for i, x in enumerate(t): yield from f(..) -/
namespace Gk
open PySem PySem.Spec PyProof.Rows L2
open Sem (wp)

section
variable {X : Cx} {pins : Pl} {σ : L2.St} {H : Hp} {s : Shared} {a e j : Addr} {i : Nat} {old : Value} {xs : List V} {x : V} {E : Value → Shared → Prop}
theorem enum_nextT (hc : X.calm = true) (I : Inv X pins σ H s) (hf : ∀ b ∈ [e, j], FpOk X pins H b) (he : IsEnum s.heap e j ((i : Nat) : Int) old) (hit : s.heap.IsTupleIter j a i) (hne : e ≠ j) (hna : a ≠ j) (hne2 : a ≠ e) (hq : H a = some (.tup xs)) (hx : xs[i]? = some x) :
    wpAny (model X.prog X.w) X.A (pyNext (.ref e)) (fun r s1 => ∃ T y, r = some (.ref T) ∧ H T = none ∧ Inv X pins σ (upd H T (.tup [.int (i : Nat), x])) s1 ∧ IsEnumOut s1.heap e j (((i + 1 : Nat) : Int)) y T ∧ s1.heap.IsTupleIter j a (i + 1) ∧ T ≠ e ∧ T ≠ j) E s := by
  obtain ⟨hz, its, rv, p⟩ := I.hok a _ hq
  obtain ⟨u, hu, ru⟩ := rv.get hx
  have hel : e < s.heap.objs.size := Heap.lt_size he
  have hil : j < s.heap.objs.size := by obtain ⟨_, q, _⟩ := hit; exact Heap.lt_size q
  have hi : i < its.toArray.size := by
    have := (List.getElem?_eq_some_iff.mp hu).1
    simpa using this
  refine wpAny_pyNext_enum_itemC (Draws.tuple (A := X.A.in1) (I.ok.hd hc) j a hna its.toArray) he ⟨hit, p⟩ hi hne (by simp [hne, Ne.symm hne2]) fun y h' tk hy ho hst hT hsz hk => ?_
  have hyu : y = u := by
    have q : its.toArray[i]? = some y := hy
    have q2 : its[i]? = some y := by simpa using q
    rw [hu] at q2; exact (Option.some.inj q2).symm
  subst hyu
  have new : ObjOk X.prog X.w (upd H s.heap.objs.size (.tup [.int (i : Nat), x])) h' s.heap.objs.size (.tup [.int (i : Nat), x]) :=
    ⟨by show 2 ≤ sizeLine; decide, [.int i tk, y], .cons ⟨_, rfl⟩ (.cons ru .nil), ⟨_, hT, rfl, _, rfl⟩⟩
  have I1 : Inv X pins σ (upd H s.heap.objs.size (.tup [.int (i : Nat), x])) { s with heap := h', toks := tk + 1 } := I.turnedNew (ch := [e, j]) (fun b ob hb q => hk b ob (fun z => hb (by simp [z])) (fun z => hb (by simp [z])) q) hf (Nat.le_refl _) new
  refine ⟨s.heap.objs.size, y, rfl, I.hok.fresh (Nat.le_refl _), I1, ?_, hst.1, Nat.ne_of_gt hel, Nat.ne_of_gt hil⟩
  have e1 : ((i + 1 : Nat) : Int) = (i : Int) + 1 := by omega
  rw [e1]; exact ho
theorem enum_endT (hc : X.calm = true) (I : Inv X pins σ H s) (hf : ∀ b ∈ [e, j], FpOk X pins H b) (he : IsEnum s.heap e j ((i : Nat) : Int) old) (hit : s.heap.IsTupleIter j a i) (hq : H a = some (.tup xs)) (hx : xs.length ≤ i) :
    wpAny (model X.prog X.w) X.A (pyNext (.ref e)) (fun r s1 => r = none ∧ Inv X pins σ H s1) E s := by
  obtain ⟨hz, its, rv, p⟩ := I.hok a _ hq
  obtain ⟨f0, f1, f2, f3, f4, f5⟩ := hf j (by simp)
  have hT : s.TypeIs (.ref e) "enumerate" := ⟨_, he, rfl⟩
  unfold pyNext
  refine wpAny_bind (wpAny_attempt (wpAny_callSpecial?_slot (name := Str.ofString "__next__") hT F.slot_enumerate_next (wpAny_call_entry F.slot_enumerate_next hT F.entry_enumerate_next ?_ (F.args_enumerate_next_1 _))))
  show wpAny _ _ (field (.ref e) 2 >>= _) _ _ _
  refine wpAny_bind (wpAny_field he rfl (x := .ref j) rfl ?_)
  have hend : its.toArray[i]? = none := by
    have := rv.length
    simp; omega
  refine wpAny_bind (wpAny_nextOf_tuple_end (I.ok.hd hc) hit p hend fun h' y hx' hs => ?_)
  obtain ⟨o, ho, hcl⟩ := hs
  refine wpAny_bind (wpAny_isInstance (T := "StopIteration") (b := true) ⟨o, ho, hcl⟩ isSubtype_stop ?_)
  exact wpAny_pure ⟨rfl, I.turned (t' := s.toks) (fun b o hb q => hx' b o hb q) f0 f1 f3 f4 f5⟩
theorem enum_evalT {ex : Expr} {ta : TA} {p pos : Pos} (I : Inv X pins σ H s) (hg : L2.Gl X "enumerate") (hm : X.mg "enumerate" = none) (ha : PA X [ex] ta) {R : Addr → List V → Hp → Prop} (h : ta σ H fun vs H1 => ∃ a xs, vs = [.ref a] ∧ H1 a = some (.tup xs) ∧ R a xs H1) (hs : starEach [ex] X.env = [(false, eval ex X.env)] := by rfl) :
    wpAny (model X.prog X.w) X.A (eval (.Call (.Name "enumerate" p) [ex] [] pos) X.env) (fun v s1 => ∃ e j a xs H1, v = .ref e ∧ Inv X pins σ H1 s1 ∧ IsEnum s1.heap e j ((0 : Nat) : Int) .none ∧ s1.heap.IsTupleIter j a 0 ∧ e ≠ j ∧ a ≠ j ∧ a ≠ e ∧ (∀ b ∈ [e, j], FpOk X pins H1 b) ∧ H1 a = some (.tup xs) ∧ R a xs H1) X.xe s := by
  refine Call_ (ld_blt I hg hm boot_enumerate (PyProof.Rows.callWith_type1 (thn (ha.run pos pins s σ H _ I h) fun us s1 ⟨vs, H1, I1, r1, q1⟩ => ?_) hs rfl))
  obtain ⟨a, xs, ex, hq, q⟩ := q1
  subst ex
  cases r1 with
  | cons r rr =>
    cases rr
    cases r
    obtain ⟨hz, its, rv, p'⟩ := I1.hok a _ hq
    refine enum_begins1 (begins_tuple a its.toArray) p' fun h' he hit hk => ?_
    have I2 : Inv X pins σ H1 { s1 with heap := h' } := I1.kept (t' := s1.toks) hk
    have ha' : a < s1.heap.objs.size := I1.hok.lt hq
    refine ⟨s1.heap.objs.size + 1, s1.heap.objs.size, a, xs, H1, rfl, I2, he, ⟨_, hit, rfl, rfl⟩, Nat.succ_ne_self _, Nat.ne_of_lt ha', Nat.ne_of_lt (Nat.lt_succ_of_lt ha'), fun b hb => ?_, hq, q⟩
    have hle : s1.heap.objs.size ≤ b := by
      rcases (show b = s1.heap.objs.size + 1 ∨ b = s1.heap.objs.size by simpa using hb) with z | z
      · rw [z]; exact Nat.le_add_right _ _
      · rw [z]; exact Nat.le_refl _
    exact I1.fpOk hle (I1.hok.fresh hle)
end
theorem letGo_enum {M : Model} {A : Around} {E : Value → Shared → Prop} {s : Shared} {elts : List Expr} {x1 : Nat} {pos : Pos} {e it a : Addr} {i : Int} {item : Value} {Q : Unit → Shared → Prop} (he : IsEnumOut s.heap e it i item a)
    (hQ : ∀ h', IsEnum h' e it i item → Heap.SameBut e s.heap h' → Q () { s with heap := h' }) : wpAny M A (letOwnedTupleGo (.Tuple elts x1 pos) (.ref e) (.ref a)) Q E s := by
  unfold letOwnedTupleGo
  refine wpAny_bind (wpAny_load he ?_)
  show wpAny _ A (if (["enumerate", "zip", "dict_itemiterator", "dict_reverseitemiterator", "odict_iterator", "itertools.zip_longest", "itertools.pairwise"].contains "enumerate" && (#[rawInt a, .bool false, .ref it, rawInt i, .none, item] : Array Value)[0]? == some (rawInt a)) = true then _ else _) Q E s
  rw [if_pos (by simp)]
  refine wpAny_bind (wpAny_rule ?_)
  show wpAny _ A (setField (.ref e) 0 .none) Q E s
  exact wpAny_setField he rfl (by simp) (hQ _ (Heap.get?_update_self _ he rfl) (Heap.SameBut.update ..))

section
variable {G : GX} {W : Wk} {own R : Pl} {σ : L2.St} {H : Hp} {s : Shared} {a e j : Addr} {i : Nat} {old : Value} {xs : List V} {x : V}
theorem rn_add {E : Pl} (ok : G.Ok) (wok : W.Ok G) (r : Rn G W R σ H s) (h : ∀ p ∈ E, FpOk (G.cx W) (R ++ W.tl) H p.1 ∧ s.heap.get? p.1 = some p.2 ∧ ∀ v, p.2.data ≠ .cell v) : Rn G W (E ++ R) σ H s := by
  have hs0 : (cut W.s0.heap G.L).objs.size = G.L := cut_size (Nat.le_of_lt wok.lt)
  refine ⟨⟨r.inv.inv.pins_of fun p hp => ?_, Told.mono r.inv.told (TP.mono fun p hp => ?_)⟩, fun p hp => ?_, r.ext, r.tt, r.sz, r.gz⟩
  · rw [List.append_assoc] at hp
    rcases List.mem_append.mp hp with hp | hp
    · obtain ⟨f, e, d⟩ := h p hp
      exact ⟨e, f.1, f.2.1, f.2.2.1, d⟩
    · exact r.inv.inv.pin p (List.mem_append_right _ hp)
  · rw [List.append_assoc]
    exact List.mem_append_right _ hp
  · rcases List.mem_append.mp hp with hp | hp
    · obtain ⟨f, _, _⟩ := h p hp
      refine ⟨?_, fun q hq => ?_⟩
      · have h1 : G.L ≤ p.1 := by
          rcases f.2.2.2.1 with z | z
          · exact absurd (show p.1 ∈ ([] : List Addr) from z) (by simp)
          · have z' : (cut W.s0.heap G.L).objs.size ≤ p.1 := z
            rw [hs0] at z'; exact z'
        exact Nat.lt_of_le_of_ne h1 (Ne.symm f.2.1)
      · rcases List.mem_append.mp hq with hq | hq
        · exact f.2.2.2.2.2 q (List.mem_append_left _ hq)
        · exact f.2.2.2.2.2 q (List.mem_append_right _ (List.mem_append_right _ hq))
    · exact r.apart p hp
/-- the two objects of enumerate among a frame's own -/
structure EnSt (own : Pl) (a e j : Addr) (i : Nat) : Prop where
  ex : ∃ oe oj, (e, oe) ∈ own ∧ (j, oj) ∈ own ∧ (∀ h : Heap, h.get? e = some oe → ∃ old, IsEnum h e j ((i : Nat) : Int) old) ∧ (∀ h : Heap, h.get? j = some oj → h.IsTupleIter j a i) ∧ isG oe = false ∧ isG oj = false
  ne : e ≠ j
  na : a ≠ j
  ne2 : a ≠ e
theorem EnSt.mono {own' : Pl} (h : EnSt own a e j i) (hs : Sub own own') : EnSt own' a e j i := by
  obtain ⟨⟨oe, oj, h1, h2, r⟩, n⟩ := h
  exact ⟨⟨oe, oj, hs _ h1, hs _ h2, r⟩, n, by assumption, by assumption⟩
theorem rn_take (ok : G.Ok) (wok : W.Ok G) (r : Rn G W own σ H s) (h : EnSt own a e j i) :
    ∃ R old, Rn G W R σ H s ∧ (∀ b ∈ [e, j], FpOk (G.cx W) (R ++ W.tl) H b) ∧ IsEnum s.heap e j ((i : Nat) : Int) old ∧ s.heap.IsTupleIter j a i := by
  obtain ⟨⟨oe, oj, h1, h2, k1, k2, g1, g2⟩, hne, hna, hne2⟩ := h
  have pe := r.inv.inv.pin (e, oe) (List.mem_append_right _ (List.mem_append_left _ h1))
  have pj := r.inv.inv.pin (j, oj) (List.mem_append_right _ (List.mem_append_left _ h2))
  obtain ⟨old, hen⟩ := k1 _ pe.1
  have hs0 : (cut W.s0.heap G.L).objs.size = G.L := cut_size (Nat.le_of_lt wok.lt)
  let R := own.filter fun p => decide (p.1 ≠ e ∧ p.1 ≠ j)
  have hR : ∀ p, p ∈ R ↔ p ∈ own ∧ p.1 ≠ e ∧ p.1 ≠ j := fun p => by
    constructor
    · intro z
      obtain ⟨z1, z2⟩ := List.mem_filter.mp z
      exact ⟨z1, of_decide_eq_true z2⟩
    · rintro ⟨z1, z2⟩
      exact List.mem_filter.mpr ⟨z1, decide_eq_true z2⟩
  refine ⟨R, old, ⟨⟨r.inv.inv.pins_of fun p hp => ?_, fun n k b c p fs cl ee => ?_⟩, fun p hp => r.apart p ((hR p).mp hp).1, r.ext, r.tt, r.sz, r.gz⟩, fun b hb => ?_, hen, k2 _ pj.1⟩
  · rcases List.mem_append.mp hp with hp | hp
    · exact r.inv.inv.pin p (List.mem_append_right _ (List.mem_append_left _ ((hR p).mp hp).1))
    · exact r.inv.inv.pin p (List.mem_append_right _ (List.mem_append_right _ hp))
  · obtain ⟨o, hm, hg⟩ := r.inv.told n k b c p fs cl ee
    refine ⟨o, ?_, hg⟩
    rcases List.mem_append.mp hm with hm | hm
    · refine List.mem_append_left _ ((hR (b, o)).mpr ⟨hm, fun z => ?_, fun z => ?_⟩)
      · have q := (r.inv.inv.pin (b, o) (List.mem_append_right _ (List.mem_append_left _ hm))).1
        have z' : b = e := z
        subst z'
        have e1 : some o = some oe := q.symm.trans pe.1
        cases e1
        rw [g1] at hg; cases hg
      · have q := (r.inv.inv.pin (b, o) (List.mem_append_right _ (List.mem_append_left _ hm))).1
        have z' : b = j := z
        subst z'
        have e1 : some o = some oj := q.symm.trans pj.1
        cases e1
        rw [g2] at hg; cases hg
    · exact List.mem_append_right _ hm
  · have key : ∀ oo, (b, oo) ∈ own → FpOk (G.cx W) (R ++ W.tl) H b := fun oo hm => by
      have p := r.inv.inv.pin (b, oo) (List.mem_append_right _ (List.mem_append_left _ hm))
      have ap := r.apart _ hm
      refine ⟨p.2.1, p.2.2.1, p.2.2.2.1, .inr ?_, fun y c ec => ?_, fun q hq => ?_⟩
      · show (cut W.s0.heap G.L).objs.size ≤ b
        rw [hs0]; exact Nat.le_of_lt ap.1
      · have e' : (cellsFrom (G.L + 1) G.scope.names []).lookup y = some c := ec
        rw [ok.cells] at e'; cases e'
      · rcases List.mem_append.mp hq with hq | hq
        · exact ap.2 q (List.mem_append_left _ hq)
        · rcases List.mem_append.mp hq with hq | hq
          · rcases (show b = e ∨ b = j by simpa using hb) with z | z
            · rw [z]; exact ((hR q).mp hq).2.1
            · rw [z]; exact ((hR q).mp hq).2.2
          · exact ap.2 q (List.mem_append_right _ hq)
    rcases (show b = e ∨ b = j by simpa using hb) with z | z
    · subst z; exact key oe h1
    · subst z; exact key oj h2
theorem en_pins (hen : IsEnum s.heap e j ((i : Nat) : Int) old) (hit : s.heap.IsTupleIter j a i) (hne : e ≠ j) (hna : a ≠ j) (hne2 : a ≠ e) : ∃ E : Pl, EnSt (E ++ R) a e j i ∧ ∀ p ∈ E, p.1 ∈ [e, j] ∧ s.heap.get? p.1 = some p.2 ∧ ∀ v, p.2.data ≠ .cell v := by
  obtain ⟨oj, hoj, hcj, hdj⟩ := hit
  refine ⟨[(e, _), (j, oj)], ⟨⟨_, oj, List.mem_cons_self, List.mem_cons_of_mem _ List.mem_cons_self, fun h z => ⟨old, z⟩, fun h z => ⟨oj, z, hcj, hdj⟩, ?_, ?_⟩, hne, hna, hne2⟩, fun p hp => ?_⟩
  · rfl
  · unfold isG Obj.genNumber?
    rw [hcj, hdj]; rfl
  · rcases List.mem_cons.mp hp with rfl | hp
    · exact ⟨by simp, hen, fun v z => by cases z⟩
    · rcases List.mem_cons.mp hp with rfl | hp
      · exact ⟨by simp, hoj, fun v z => by rw [hdj] at z; cases z⟩
      · exact nomatch hp
end
end Gk
/-! The loop over a tuple's places that hands on what a generator of each hands out. -/
namespace Gk
open PySem PySem.Spec PyProof.Rows L2
open Sem (wp)

section
variable {G : GX} {kc : Nat} {f : Addr} {fd : FuncData} {ps : List Str} {sp : SpG1} {ds : List Value} {dvs : List V} {c : Code} {fs : List Frame} {K : Flow → Sem PySem.Fin} {J : Value → Sem PySem.Fin} {gd : Bool → Bool} {lv : List Value → List Value}
/-- what the loop's body asks -/
structure EnB (G : GX) (f : Addr) (sp : SpG1) (dvs : List V) (elts : List Expr) (kk : Nat) (tpos : Pos) (e0 : Expr) (es : List Expr) (a : Addr) (xs : List V) (Pv : L2.St → Prop) (Tc : Nat → Hp → Prop) (its : Nat → List Item) : Prop where
  tup : ∀ H, G.T H → H a = some (.tup xs)
  tc : ∀ i H, i < xs.length → G.T H → Tc i H
  turn : ∀ (W : Wk), W.Ok G → ∀ (i : Nat) (x : V) (σ : L2.St) (H : Hp) (T : Addr), xs[i]? = some x → Pv σ → G.T H → H T = some (.tup [.int (i : Nat), x]) →
    ∃ g t, PG (G.cx W) (.Tuple elts kk tpos) g ∧ PA (G.cx W) (e0 :: es) t ∧ g (.ref T) σ H fun σ' H' => Ext H H' ∧ Pv σ' ∧ t σ' H' fun vs H1 => Ext H' H1 ∧ sp (vs ++ dvs) H1 (Tc i) (its i)
theorem sg_enumLoop {x : Str} {p pos yp spos tpos : Pos} {elts : List Expr} {kk : Nat} {e0 : Expr} {es : List Expr} {a e j : Addr} {xs : List V} {Pv : L2.St → Prop} {Tc : Nat → Hp → Prop} {its rest : Nat → List Item} {pp : Pos} (ok : G.Ok)
    (F : GFn1 G.P G.w G.K G.mg G.base kc f fd ps sp) (hkc : kc + 1 ≤ G.k) (hk1 : 1 ≤ kc) (hg : ∀ W, L2.Gl (G.cx W) x) (hm : G.mg x = some (.ref f)) (hk : PySem.W.keepIn G.K (.ref f) = true) (hb : Binds G.K fd ps ds) (hd : Vals dvs ds)
    (B : EnB G f sp dvs elts kk tpos e0 es a xs Pv Tc its) (hr : ∀ i, i < xs.length → rest i = its i ++ rest (i + 1))
    (hover : ∀ W : Wk, W.Ok G → W.A.over c fs = (G.cx W).A) (hsp : splitAtGen fs = none) (hfg : fs.any Frame.guarded = false) (hgd : gd false = false)
    (hend : ∀ W : Wk, W.Ok G → ∀ own σ s H, Pv σ → Rn G W own σ H s → Sg G.P G.w (Ph G (rest xs.length) W) W.A c (K .next) fs s) (hi : interactive G.env = false)
    (hdb : (x == ("__debug__" : Str)) = false) (he : starEach (e0 :: es) G.env = (false, eval e0 G.env) :: starEach es G.env) (hpl : (backTo pos (starEach es G.env)).any (·.1) = false) :
    ∀ (m i : Nat), i + m = xs.length → ∀ (W : Wk), W.Ok G → ∀ own σ s H, Pv σ → Rn G W own σ H s → EnSt own a e j i →
      Sg G.P G.w (Ph G (rest i) W) W.A (.forLoop (.Tuple elts kk tpos) (.ref e) [.Expr (.YieldFrom (.Call (.Name x p) (e0 :: es) [] pos) yp) spos] [] G.env)
        (denote table (.forLoop (.Tuple elts kk tpos) (.ref e) [.Expr (.YieldFrom (.Call (.Name x p) (e0 :: es) [] pos) yp) spos] [] G.env))
        (.ret (fun r => ((match r with | .ok f => (.pure f : Sem Flow) | .error e => .raise e).onRaise (cameBack G.env)).wrap K J gd lv) none (gd false) (lv []) c pp [] :: fs) s := by
  have hover2 : ∀ W : Wk, W.Ok G → W.A.over (.forLoop (.Tuple elts kk tpos) (.ref e) [.Expr (.YieldFrom (.Call (.Name x p) (e0 :: es) [] pos) yp) spos] [] G.env)
      (.ret (fun r => ((match r with | .ok f => (.pure f : Sem Flow) | .error e => .raise e).onRaise (cameBack G.env)).wrap K J gd lv) none (gd false) (lv []) c pp [] :: fs) = (G.cx W).A := fun W wok => by
    rw [GenW.over_loop rfl rfl]
    exact hover W wok
  have hsp2 : splitAtGen (.ret (fun r => ((match r with | .ok f => (.pure f : Sem Flow) | .error e => .raise e).onRaise (cameBack G.env)).wrap K J gd lv) none (gd false) (lv []) c pp [] :: fs) = none := by
    show (splitAtGen fs).map _ = none
    rw [hsp]; rfl
  have hfg2 : (Frame.ret (fun r => ((match r with | .ok f => (.pure f : Sem Flow) | .error e => .raise e).onRaise (cameBack G.env)).wrap K J gd lv) none (gd false) (lv []) c pp [] :: fs).any Frame.guarded = false := by
    show (gd false || fs.any Frame.guarded) = false
    rw [hgd, hfg]; rfl
  intro m
  induction m with
  | zero =>
    intro i hi2 W wok own σ s H pv r en
    have hi' : i = xs.length := by omega
    subst hi'
    obtain ⟨R, old, r1, hf, hen, hit⟩ := rn_take ok wok r en
    show Sg _ _ _ _ _ ((forTurn (.Tuple elts kk tpos) (.ref e) [.Expr (.YieldFrom (.Call (.Name x p) (e0 :: es) [] pos) yp) spos] [] G.env).onRaise (fun x => do noteFrame x G.env; theTreesLotGoes x)) _ s
    unfold forTurn
    rw [Sem.onRaise_eq_wrap]
    refine sg_bindw (wpAny_standAt ?_)
    refine sg_bindw (wpAny_onRaise ?_)
    rw [hover2 W wok]
    refine wpAny_mono (rn_step (R := fun rr σ' H' => rr = none ∧ σ' = σ) ok r1 (wpAny_mono (enum_endT (X := G.cx W) rfl (Inv.lulled r1.inv.inv) hf hen hit (B.tup _ r.tt) (Nat.le_refl _)) (fun rr sh ⟨h1, h2⟩ => ⟨σ, H, h2, .refl _, h1, rfl⟩) fun _ _ z => z)) ?_ fun _ _ z => z.elim
    rintro rr s1 ⟨σ', H', r2, rfl, rfl⟩
    refine sg_again (c' := .block [] G.env) rfl ?_
    show Sg _ _ _ _ _ (leafOf (.ok .next)) _ _
    exact sg_leaf (.ok .next) (hend W wok R σ' s1 H' pv r2)
  | succ m ih =>
    intro i hi2 W wok own σ s H pv r en
    have hlt : i < xs.length := by omega
    obtain ⟨v, hx⟩ : ∃ v, xs[i]? = some v := ⟨xs[i], List.getElem?_eq_getElem hlt⟩
    obtain ⟨R, old, r1, hf, hen, hit⟩ := rn_take ok wok r en
    obtain ⟨hne, hna, hne2⟩ : e ≠ j ∧ a ≠ j ∧ a ≠ e := ⟨en.ne, en.na, en.ne2⟩
    show Sg _ _ _ _ _ ((forTurn (.Tuple elts kk tpos) (.ref e) [.Expr (.YieldFrom (.Call (.Name x p) (e0 :: es) [] pos) yp) spos] [] G.env).onRaise (fun x => do noteFrame x G.env; theTreesLotGoes x)) _ s
    unfold forTurn
    rw [Sem.onRaise_eq_wrap]
    refine sg_bindw (wpAny_standAt ?_)
    refine sg_bindw (wpAny_onRaise ?_)
    rw [hover2 W wok]
    refine wpAny_mono (rn_stepH (R := fun rr σ' H' h' => ∃ T y, rr = some (.ref T) ∧ H T = none ∧ H' = upd H T (.tup [.int (i : Nat), v]) ∧ σ' = σ ∧ IsEnumOut h' e j (((i + 1 : Nat) : Int)) y T ∧ h'.IsTupleIter j a (i + 1) ∧ T ≠ e ∧ T ≠ j) ok r1
      (wpAny_mono (enum_nextT (X := G.cx W) rfl (Inv.lulled r1.inv.inv) hf hen hit hne hna hne2 (B.tup _ r.tt) hx) (fun rr sh ⟨T, y, h1, h2, h3, h4, h5, h6, h7⟩ => ⟨σ, _, h3, Ext.upd h2, T, y, h1, h2, rfl, rfl, h4, h5, h6, h7⟩) fun _ _ z => z)) ?_ fun _ _ z => z.elim
    rintro rr s1 ⟨σ', H', r2, T, y, rfl, hTn, rfl, rfl, hout, hit2, hTe, hTj⟩
    have hf2 : ∀ b ∈ [e, j], FpOk (G.cx W) (R ++ W.tl) (upd H T (.tup [.int (i : Nat), v])) b := fun b hb => by
      have q := hf b hb
      refine ⟨?_, q.2⟩
      rw [upd_ne ?_]
      · exact q.1
      · rcases (show b = e ∨ b = j by simpa using hb) with z | z
        · rw [z]; exact Ne.symm hTe
        · rw [z]; exact Ne.symm hTj
    refine sg_bindw (letGo_enum hout fun h' hen2 hsb => ?_)
    have fe := hf2 e (by simp)
    have r3 : Rn G W R σ' (upd H T (.tup [.int (i : Nat), v])) { s1 with heap := h' } :=
      ⟨⟨r2.inv.inv.turned (t' := s1.toks) (fun b o hb eb => (hsb.2 b hb).trans eb) fe.1 fe.2.1 fe.2.2.2.1 fe.2.2.2.2.1 fe.2.2.2.2.2, r2.inv.told⟩, r2.apart, r2.ext, r2.tt, by show _ ≤ h'.objs.size; rw [hsb.1]; exact r2.sz, r2.gz⟩
    have hit3 : h'.IsTupleIter j a (i + 1) := hit2.at fun o q => (hsb.2 j (Ne.symm hne)).trans q
    obtain ⟨E, en2, hE⟩ := en_pins (s := { s1 with heap := h' }) (R := R) (i := i + 1) hen2 hit3 hne hna hne2
    have r4 := rn_add ok wok r3 (E := E) fun p hp => ⟨hf2 p.1 (hE p hp).1, (hE p hp).2⟩
    have hTt : (upd H T (.tup [.int (i : Nat), v])) T = some (.tup [.int (i : Nat), v]) := upd_same
    obtain ⟨g, t, hpg, hpa, hq⟩ := B.turn W wok i v σ' _ T hx pv r4.tt hTt
    refine sg_bindw ?_
    rw [hover2 W wok]
    refine wpAny_mono (rn_pg (x := V.ref T) ok r4 hpg rfl hq) ?_ fun _ _ z => z.elim
    rintro _ s2 ⟨σ2, H2, r5, pv2, ht⟩
    rw [Sem.bind_eq_wrap', Sem.wrap_wrap]
    refine sg_cons ?_
    rw [hr i hlt]
    refine sg_yfrom ok wok F hkc hk1 (hg W) hm hk hb hd hpa (fun H hT => B.tc i H hlt hT) hover2 hsp2 hfg2 rfl (fun W2 wok2 own' s3 H3 hsub r6 => ?_) r5 ht hi hdb he hpl
    exact sg_again rfl (ih (i + 1) (by omega) W2 wok2 own' σ2 s3 H3 pv2 r6 (en2.mono hsub))
/-- for i, x in enumerate(t): yield from f(..) -/
theorem sg_enumFor {W : Wk} {own : Pl} {σ : L2.St} {s : Shared} {H : Hp} {x : Str} {p pos yp spos tpos p' pos' fpos : Pos} {elts : List Expr} {kk : Nat} {ex e0 : Expr} {es : List Expr} {a : Addr} {xs : List V} {Pv : L2.St → Prop} {Tc : Nat → Hp → Prop} {its rest : Nat → List Item} {ta : TA} (ok : G.Ok) (wok : W.Ok G)
    (F : GFn1 G.P G.w G.K G.mg G.base kc f fd ps sp) (hkc : kc + 1 ≤ G.k) (hk1 : 1 ≤ kc) (hg : ∀ W, L2.Gl (G.cx W) x) (hm : G.mg x = some (.ref f)) (hk : PySem.W.keepIn G.K (.ref f) = true) (hb : Binds G.K fd ps ds) (hd : Vals dvs ds)
    (B : EnB G f sp dvs elts kk tpos e0 es a xs Pv Tc its) (hr : ∀ i, i < xs.length → rest i = its i ++ rest (i + 1))
    (hover : ∀ W : Wk, W.Ok G → W.A.over c fs = (G.cx W).A) (hsp : splitAtGen fs = none) (hfg : fs.any Frame.guarded = false) (hgd : gd false = false)
    (hend : ∀ W : Wk, W.Ok G → ∀ own σ s H, Pv σ → Rn G W own σ H s → Sg G.P G.w (Ph G (rest xs.length) W) W.A c (K .next) fs s) (hi : interactive G.env = false)
    (hge : L2.Gl (G.cx W) "enumerate") (hme : G.mg "enumerate" = none) (hpa : PA (G.cx W) [ex] ta) (pv : Pv σ) (r : Rn G W own σ H s) (hta : ta σ H fun vs H1 => vs = [.ref a] ∧ Ext H H1)
    (hdb : (x == ("__debug__" : Str)) = false := by decide) (he : starEach (e0 :: es) G.env = (false, eval e0 G.env) :: starEach es G.env := by rfl) (hpl : (backTo pos (starEach es G.env)).any (·.1) = false := by rfl) (hs : starEach [ex] G.env = [(false, eval ex G.env)] := by rfl)
    (hfo : ∀ y, foldedSetIterable (.Call (.Name "enumerate" p') [ex] [] pos') G.env y = pure y := by intro _; rfl) (hmono : ∀ σ H Q Q', (∀ vs H1, Q vs H1 → Q' vs H1) → ta σ H Q → ta σ H Q') :
    Sg G.P G.w (Ph G (rest 0) W) W.A c ((exec (.For (.Tuple elts kk tpos) (.Call (.Name "enumerate" p') [ex] [] pos') [.Expr (.YieldFrom (.Call (.Name x p) (e0 :: es) [] pos) yp) spos] [] fpos) G.env).wrap K J gd lv) fs s := by
  rw [exec_For]
  refine sg_bindw (m := standAt fpos) (wpAny_standAt ?_)
  refine sg_bindw ?_
  rw [hover W wok]
  have hta2 : ta σ H fun vs H1 => ∃ a' ys, vs = [.ref a'] ∧ H1 a' = some (.tup ys) ∧ a' = a ∧ ys = xs ∧ Ext H H1 := hmono _ _ _ _ (fun vs H1 ⟨e, x1⟩ => ⟨a, xs, e, x1 _ _ (B.tup _ r.tt), rfl, rfl, x1⟩) hta
  refine wpAny_mono (rn_stepH (R := fun v σ' H' h' => ∃ e j, v = .ref e ∧ σ' = σ ∧ IsEnum h' e j ((0 : Nat) : Int) .none ∧ h'.IsTupleIter j a 0 ∧ e ≠ j ∧ a ≠ j ∧ a ≠ e ∧ ∀ b ∈ [e, j], FpOk (G.cx W) (own ++ W.tl) H' b) ok r
    (wpAny_mono (enum_evalT (X := G.cx W) (Inv.lulled r.inv.inv) hge hme hpa (R := fun a' ys H1 => a' = a ∧ ys = xs ∧ Ext H H1) hta2 hs) (fun v sh ⟨e, j, a', ys, H1, h1, h2, h3, h4, h5, h6, h7, h8, h9, h10, h11, h12⟩ => by
      subst h10
      exact ⟨σ, H1, h2, h12, e, j, h1, rfl, h3, h4, h5, h6, h7, h8⟩) fun _ _ z => z)) ?_ fun _ _ z => z.elim
  rintro v s1 ⟨σ1, H1, r1, e, j, rfl, rfl, hen, hit, hne, hna, hne2, hf⟩
  refine sg_bindw (wpAny_of_eq (hfo _) ?_)
  refine sg_bindw (wpAny_standAt ?_)
  refine sg_bindw (wpAny_holding ?_)
  rw [hover W wok]
  refine wpAny_mono (rn_stepH (A := (G.cx W).A) (R := fun v σ' H' h' => v = .ref e ∧ σ' = σ1 ∧ H' = H1 ∧ IsEnum h' e j ((0 : Nat) : Int) .none ∧ h'.IsTupleIter j a 0) ok r1
    (wpAny_pyIter_enum hen ⟨σ1, H1, Inv.lulled r1.inv.inv, .refl _, rfl, rfl, rfl, hen, hit⟩)) ?_ fun _ _ z => z.elim
  rintro v s2 ⟨σ2, H2, r2, rfl, rfl, rfl, hen2, hit2⟩
  obtain ⟨E, en2, hE⟩ := en_pins (s := s2) (R := own) (i := 0) hen2 hit2 hne hna hne2
  have r4 := rn_add ok wok r2 (E := E) fun p hp => ⟨hf p.1 (hE p hp).1, (hE p hp).2⟩
  refine sg_call fun pp => ?_
  exact sg_enumLoop ok F hkc hk1 hg hm hk hb hd B hr hover hsp hfg hgd hend hi hdb he hpl xs.length 0 (Nat.zero_add _) W wok _ σ2 s2 H2 pv r4 en2
/-- a yield -/
theorem sg_yieldI {W : Wk} {own : Pl} {σ : L2.St} {s : Shared} {H : Hp} {e : Expr} {te : TE} {yp pos : Pos} {item : Item} {rest : List Item} (ok : G.Ok) (wok : W.Ok G) (he : PE (G.cx W) e te) (r : Rn G W own σ H s) (ht : te σ H fun v H' => Ext H H' ∧ item v H')
    (hover : ∀ W : Wk, W.Ok G → W.A.over c fs = (G.cx W).A) (hsp : splitAtGen fs = none) (hfg : fs.any Frame.guarded = false) (hgd : gd false = false)
    (hend : ∀ W : Wk, W.Ok G → ∀ s H, Rn G W own σ H s → Sg G.P G.w (Ph G rest W) W.A c (K .next) fs s) (hco : G.env.scope.isCoroutine = false) (hi : interactive G.env = false) :
    Sg G.P G.w (Ph G (item :: rest) W) W.A c ((exec (.Expr (.Yield (some e) yp) pos) G.env).wrap K J gd lv) fs s := by
  refine sg_yieldS hsp hgd ?_ hco hi
  rw [hover W wok]
  refine wpAny_mono (rn_pe ok r he ht) ?_ fun _ _ z => z.elim
  rintro u s1 ⟨v, H1, r1, rv, hit⟩ p k hk
  have no1 : ∀ {φ : Nat × GenState → Prop}, ∀ q ∈ ([] : Gl1), φ q := fun q hq => absurd hq (by simp)
  refine ⟨u, k, [], c, p, fs, v, own, [], σ, H1, rfl, hfg, rv, hit, r1, no1, no1, no1, (fun a e => by cases e), fun W2 wok2 s2 H2 r2 _ => ?_⟩
  have e1 : k (.send .none) = K .next := hk .none
  rw [e1]
  exact hend W2 wok2 s2 H2 r2
/-- the frame's code -/
theorem sg_funcB {W : Wk} {body : List Stmt} {s : Shared} {Ph' : Fi}
    (h : ∀ J : Value → Sem PySem.Fin, Sg G.P G.w Ph' W.A (.func body G.env) ((execs body G.env).wrap (fun f => .pure (.done (.ret (match f with | .ret v => v | _ => .none)))) J id id) [] s) :
    Sg G.P G.w Ph' W.A (.func body G.env) (denote table (.func body G.env)) [] s := by
  show Sg _ _ _ _ _ (.point [] fun _ => ((execs body G.env).onRaise (leaving G.env)) >>= _) [] s
  refine sg_point ?_
  rw [Sem.onRaise_eq_wrap, Sem.bind_eq_wrap', Sem.wrap_wrap]
  rw [Sem.wrap_congr (execs body G.env) _ _ (K' := fun f => .pure (.done (.ret (match f with | .ret v => v | _ => .none)))) (H' := fun e => Sem.wrap (fun a => (Sem.pure (Fin.done (Flow.ret Value.none)))) .raise id id ((leaving G.env e).bind fun _ => (.raise e : Sem Unit))) (fun f => by cases f <;> rfl)
    (fun e => by rw [Sem.bind_eq_wrap, Sem.bind_eq_wrap, Sem.wrap_wrap, Sem.wrap_wrap]; rfl)]
  exact h _
theorem sg_fin {W : Wk} {own : Pl} {σ : L2.St} {s : Shared} {H : Hp} (r : Rn G W own σ H s) {c : Code} : Sg G.P G.w (Ph G [] W) W.A c (.pure (.done (.ret .none))) [] s := sg_end (.ok (.ret .none)) ⟨rfl, own, σ, H, r⟩
end
end Gk
/-! The generator ends. -/
namespace Tn
open PySem PySem.Spec PyProof.Rows L2 Gk
theorem gfn1_D {P : Program} {w : World} {K : PySem.W.Frag} {mg : Str → Option Value} {base : Heap} {x qual : Str} {params : Arguments} {body : List Stmt} {scope : Scope} {dvs : List V} {kws : List (Str × V)} {f : Addr} {fd : FuncData} {N ps : List Str} {sp : SpG1} {k : Nat}
    (F : FunD K x qual params body scope dvs kws f fd) (S : GScope N ps scope) (hcel : ∀ n, cellsFrom n scope.names [] = []) (hnc : ∀ x, scope.names.lookup x ≠ some .cell ∧ scope.names.lookup x ≠ some .free) (tm : ∀ vs H T items, sp vs H T items → T H ∧ ∀ H1 H2, Gk.Ext H1 H2 → T H1 → T H2)
    (len : ∀ vs H T items, sp vs H T items → vs.length = ps.length)
    (hbody : ∀ (cdv : Value) (L : Addr) (g : Nat) (vs : List V) (H : Hp) (T : Hp → Prop) (items : List Item), GX.Ok ⟨P, w, K, mg, base, k, N, qual, scope, f, cdv, L, g, T⟩ → sp vs H T items →
      Res ⟨P, w, K, mg, base, k, N, qual, scope, f, cdv, L, g, T⟩ items (.fresh (.func body (envOfC qual scope L f cdv))) [] [] (L2.start N vs)) :
    GFn1 P w K mg base (k + 1) f fd ps sp := by
  obtain ⟨oc, od, dV, kV, doc, pm, an, cdv, ct, osl, rfl, lk, hcd, _, _⟩ := F.ex
  exact gfn1_of lk hcd S hcel hnc tm len fun L g vs H T items ok hsp => hbody cdv L g vs H T items ok hsp
theorem gfn_never {P : Program} {w : World} {K : PySem.W.Frag} {mg : Str → Option Value} {base : Heap} {k : Nat} {f : Addr} {fd : FuncData} {ps : List Str} : GFn1 P w K mg base k f fd ps (fun _ _ _ _ => False) := ⟨fun _ _ _ _ h => h.elim, fun _ _ _ _ _ _ _ _ _ _ _ _ _ _ _ _ _ _ _ h => h.elim⟩
theorem no_of {l : List (Str × NameKind)} {k : NameKind} (h : l.all (fun y => decide (y.2 ≠ k)) = true) (x : Str) : l.lookup x ≠ some k := by
  induction l with
  | nil => intro z; cases z
  | cons y l ih =>
    intro z
    rw [List.all_cons, Bool.and_eq_true] at h
    rw [List.lookup_cons] at z
    split at z
    · exact of_decide_eq_true h.1 (Option.some.inj z)
    · exact ih h.2 z
abbrev sEnds : Stmt := top 11
abbrev nEnds : List Str := ["tree", "first", "step", "width", "number", "outlet"]
abbrev psEnds : List Str := ["tree", "first", "step"]
theorem scEnds : GScope nEnds psEnds (defScope sEnds) := ⟨rfl, rfl, rfl, by decide +kernel, rfl, by decide +kernel, by decide +kernel⟩
abbrev itE (e : Pt.End) : Item := fun v H => EndAt H v e
abbrev FnPD (K : PySem.W.Frag) (x : Str) (st : Stmt) (dvs : List V) (f : Addr) (fd : FuncData) : Prop := FunD K x x (defArgs st) (defBody st) (defScope st) dvs [] f fd
def spEnds (d : Nat) : SpG1 := fun vs H T items => ∃ (v : V) (t : Pt.Tr) (fi st : Nat) (Hs : Hp), vs = [v, .int fi, .int st] ∧ T = ExtU Hs ∧ ExtU Hs H ∧ TrAt Hs v t ∧ t.fit d ∧ 0 < st ∧ st * 4 ^ d ≤ 100000 ∧ items = (t.ends fi st).map itE
section
variable {P : Program} {w : World} {K : PySem.W.Frag} {mg : Str → Option Value} {base : Heap} {f : Addr} {fd : FuncData}
theorem ends_b3 (F : FnPD K "ends" sEnds [.int 0, .int 1] f fd) : Binds K fd psEnds [] := by
  obtain ⟨ds, r, b⟩ := F.binds1 (ps := psEnds) 3 2 (by simp) rfl fun T kV doc pm an cdv ct us its h1 h2 => match us, its, h1, h2 with | [_, _, _], [_, _], _, _ => ⟨_, rfl, rfl⟩
  cases r
  exact b
theorem ends_b1 (F : FnPD K "ends" sEnds [.int 0, .int 1] f fd) : ∃ ds, Vals [V.int 0, V.int 1] ds ∧ Binds K fd psEnds ds :=
  F.binds1 (ps := psEnds) 1 0 (by simp) rfl fun T kV doc pm an cdv ct us its h1 h2 => match us, its, h1, h2 with | [_], [_, _], _, _ => ⟨_, rfl, rfl⟩
abbrev gxEnds (P : Program) (w : World) (K : PySem.W.Frag) (mg : Str → Option Value) (base : Heap) (kc : Nat) (f : Addr) (cdv : Value) (L : Addr) (g : Nat) (Hs : Hp) : GX := ⟨P, w, K, mg, base, kc + 1, nEnds, "ends", defScope sEnds, f, cdv, L, g, ExtU Hs⟩
theorem ends_step (F : FnPD K "ends" sEnds [.int 0, .int 1] f fd) (gLen : mg "len" = none) (gIsi : mg "isinstance" = none) (gStr : mg "str" = none) (gEnum : mg "enumerate" = none) (gRec : mg "ends" = some (.ref f))
    (d kc : Nat) (hk1 : 1 ≤ kc) (spR : SpG1) (GRec : GFn1 P w K mg base kc f fd psEnds spR) (hR : ∀ d', d = d' + 1 → spR = spEnds d') : GFn1 P w K mg base (kc + 2) f fd psEnds (spEnds d) := by
  refine gfn1_D (k := kc + 1) F scEnds (fun n => rfl) (fun x => ⟨no_of (by decide +kernel) x, no_of (by decide +kernel) x⟩) (fun vs H T items h => ?_) (fun vs H T items h => ?_) ?_
  · obtain ⟨v, t, fi, st, Hs, rfl, rfl, x, _⟩ := h
    exact ⟨x, fun H1 H2 e x1 => x1.trans (.of e)⟩
  · obtain ⟨v, t, fi, st, Hs, rfl, _⟩ := h
    rfl
  · rintro cdv L g vs H T items ok ⟨v, t, fi, st, Hs, rfl, rfl, xs0, hT, hf, hs0, hst, rfl⟩
    intro W wok s H1 r gok
    show Sg P w (Ph (gxEnds P w K mg base kc f cdv L g Hs) ((t.ends fi st).map itE) W) W.A (.func (defBody sEnds) (gxEnds P w K mg base kc f cdv L g Hs).env) (denote table (.func (defBody sEnds) (gxEnds P w K mg base kc f cdv L g Hs).env)) [] s
    have hov : ∀ W : Wk, W.Ok (gxEnds P w K mg base kc f cdv L g Hs) → W.A.over (.func (defBody sEnds) (gxEnds P w K mg base kc f cdv L g Hs).env) [] = ((gxEnds P w K mg base kc f cdv L g Hs).cx W).A := fun W _ => rfl
    have hov0 := hov
    have key : ∀ H', ExtU Hs H' → ExtU Hs H' := fun _ h => h
    refine sg_funcB (G := gxEnds P w K mg base kc f cdv L g Hs) fun J => sg_cons (sg_if ?_)
    rw [hov W wok]
    cases t with
    | lf s0 =>
      have e := hT.lf
      subst e
      refine wpAny_mono (rn_pt (G := gxEnds P w K mg base kc f cdv L g Hs) (Q := fun b _ => b = true) ok r (pt_val (pe_callB call_isi (by rfl) gIsi boot_isinstance (pa_cons (pv 0) (pa_cons (pe_bltn (v := .ty "str") (by rfl) gStr (by decide +kernel) rfl) pa_nil)))) ⟨_, rfl, _, _, _, _, true, rfl, .ty _, .base (.str s0), kit_ty (by decide +kernel), true, rfl, Gk.Ext.refl _, rfl⟩) (fun b s1 hb => ?_) fun _ _ z => z.elim
      obtain ⟨H2, r1, rfl⟩ := hb
      rw [if_pos rfl, Pt.Tr.ends]
      refine sg_cons (sg_yieldI (G := gxEnds P w K mg base kc f cdv L g Hs) (item := itE (fi, st, s0)) (rest := []) ok wok (pe_tup (pa_cons (pv 1) (pa_cons (pv 2) (pa_cons (pv 0) pa_nil)))) r1 ⟨_, rfl, _, rfl, _, rfl, by show 3 ≤ sizeLine; decide, fun p hp => ⟨Gk.Ext.upd hp, p, rfl, upd_same⟩⟩ hov rfl rfl rfl (fun W2 wok2 s2 H3 r2 => sg_fin r2) rfl rfl)
    | nd ts =>
      obtain ⟨a, vs, rfl, ha, hl⟩ := hT.nd
      have hlen := hl.len
      cases d with
      | zero => rw [Pt.Tr.fit] at hf; exact hf.elim
      | succ d' =>
      have eR := hR d' rfl
      subst eR
      rw [Pt.Tr.fit] at hf
      obtain ⟨h2, h4, hfl⟩ := hf
      have hst1 : st ≤ 100000 := Nat.le_trans (Nat.le_mul_of_pos_right _ (Nat.pow_pos (by decide))) hst
      have e6 : st * ts.length * 4 ^ d' ≤ st * 4 ^ (d' + 1) := by
        rw [Nat.pow_succ, Nat.mul_assoc, Nat.mul_comm (4 ^ d')]
        exact Nat.mul_le_mul_left _ (Nat.mul_le_mul_right _ h4)
      refine wpAny_mono (rn_pt (G := gxEnds P w K mg base kc f cdv L g Hs) (Q := fun b _ => b = false) ok r (pt_val (pe_callB call_isi (by rfl) gIsi boot_isinstance (pa_cons (pv 0) (pa_cons (pe_bltn (v := .ty "str") (by rfl) gStr (by decide +kernel) rfl) pa_nil)))) ⟨_, rfl, _, _, _, _, false, rfl, .ty _, .base (.tup (r.tt _ _ ha)), kit_ty (by decide +kernel), false, rfl, Gk.Ext.refl _, rfl⟩) (fun b s1 hb => ?_) fun _ _ z => z.elim
      obtain ⟨H2, r1, rfl⟩ := hb
      rw [if_neg (by decide)]
      refine sg_cons (sg_wrap ?_)
      rw [hov W wok]
      refine wpAny_mono (rn_ps (G := gxEnds P w K mg base kc f cdv L g Hs) (R := fun σ' _ => σ' = [some (.ref a), some (.int fi), some (.int st), some (.int (st * ts.length : Nat)), none, none]) ok r1 (ps_set (i := 3) scEnds.nd rfl (Or.inl rfl) (pe_op op_mul (pv 2) (pe_callB call_len (by rfl) gLen boot_len (pa_cons (pv 0) pa_nil)))) ⟨_, rfl, _, rfl, .ref a, _, rfl, .inr ⟨vs, Evl.st_of (r1.tt _ _ ha), rfl⟩, _, _, rfl, rfl, .inl ⟨?_, ?_⟩, Gk.Ext.refl _, ?_⟩) (fun fl s2 hb => ?_) fun _ _ z => z.elim
      · show -(2 ^ 64 : Int) < (st : Int); omega
      · show (st : Int) < 2 ^ 64; omega
      · rw [hlen]; rfl
      obtain ⟨rfl, σ2, H3, r2, rfl⟩ := hb
      have hr : ∀ i, i < vs.length → (Pt.endsL (ts.drop i) fi st (st * ts.length) i).map itE = ((ts[i]?.getD (.lf ⟨#[]⟩)).ends (fi + st * i) (st * ts.length)).map itE ++ (Pt.endsL (ts.drop (i + 1)) fi st (st * ts.length) (i + 1)).map itE := fun i hi => by
        have hi' : i < ts.length := by omega
        rw [List.drop_eq_getElem_cons hi', Pt.endsL, List.map_append, List.getElem?_eq_getElem hi']
        rfl
      rw [Pt.Tr.ends]
      refine sg_cons (sg_enumFor (G := gxEnds P w K mg base kc f cdv L g Hs) (f := f) (sp := spEnds d') (a := a) (xs := vs) (Pv := fun σ => ∃ c1 c2 : Option V, σ = [some (.ref a), some (.int fi), some (.int st), some (.int (st * ts.length : Nat)), c1, c2]) (Tc := fun _ => ExtU Hs)
        (its := fun i => ((ts[i]?.getD (.lf ⟨#[]⟩)).ends (fi + st * i) (st * ts.length)).map itE) (rest := fun i => (Pt.endsL (ts.drop i) fi st (st * ts.length) i).map itE) ok wok GRec (Nat.le_refl _) hk1 (fun _ => rfl) gRec F.kp (ends_b3 F) .nil ?B hr hov rfl rfl rfl ?hend rfl rfl gEnum (pa_cons (pv 0) pa_nil) ⟨_, _, rfl⟩ r2 ⟨_, rfl, rfl, Gk.Ext.refl _⟩ (hmono := fun σ H Q Q' k ⟨x, e, q⟩ => ⟨x, e, k _ _ q⟩))
      case hend =>
        rintro W2 wok2 own2 σ3 s3 H4 _ r3
        dsimp only
        rw [hlen, List.drop_length, Pt.endsL]
        exact sg_fin r3
      case B =>
        refine ⟨fun H hH => hH _ _ ha, fun i H hi hH => hH, fun W wok i x σ H T hx pv tt hTT => ?_⟩
        obtain ⟨c1, c2, rfl⟩ := pv
        have hi : i < ts.length := by
          have := (List.getElem?_eq_some_iff.mp hx).1
          omega
        obtain ⟨u, hu, hTu⟩ := TrAtL.get _ _ i ts[i] hl (List.getElem?_eq_getElem hi)
        rw [hx] at hu
        obtain rfl := Option.some.inj hu
        refine ⟨_, _, (pg_tup rfl (pgs_cons (pg_name (i := 4) scEnds.nd rfl (Or.inl rfl)) (pgs_cons (pg_name (i := 5) scEnds.nd rfl (Or.inl rfl)) pgs_nil))), (pa_cons (pv 5) (pa_cons (pe_op op_add (pv 1) (pe_op op_mul (pv 2) (pv 4))) (pa_cons (pv 3) pa_nil))), ?_⟩
        refine ⟨T, _, rfl, Evl.st_of hTT, rfl, _, _, rfl, _, _, rfl, rfl, Gk.Ext.refl _, ⟨_, _, rfl⟩, _, rfl, _, rfl, _, rfl, _, rfl, _, _, rfl, rfl, .inl ⟨?_, ?_⟩, _, _, rfl, rfl, _, rfl, Gk.Ext.refl _, x, ts[i], fi + st * i, st * ts.length, Hs, rfl, rfl, tt, hTu, Pt.fitL_get _ _ _ _ hfl (List.getElem?_eq_getElem hi), Nat.mul_pos hs0 (by omega), Nat.le_trans e6 hst, ?_⟩
        · show -(2 ^ 64 : Int) < (st : Int); omega
        · show (st : Int) < 2 ^ 64; omega
        · rw [List.getElem?_eq_getElem hi]; rfl
theorem ok_ends (F : FnPD K "ends" sEnds [.int 0, .int 1] f fd) (gLen : mg "len" = none) (gIsi : mg "isinstance" = none) (gStr : mg "str" = none) (gEnum : mg "enumerate" = none) (gRec : mg "ends" = some (.ref f)) :
    ∀ d, GFn1 P w K mg base (3 + 2 * d) f fd psEnds (spEnds d)
  | 0 => ends_step F gLen gIsi gStr gEnum gRec 0 1 (by decide) _ gfn_never fun _ z => nomatch z
  | d + 1 => ends_step F gLen gIsi gStr gEnum gRec (d + 1) (3 + 2 * d) (by omega) _ (ok_ends F gLen gIsi gStr gEnum gRec d) fun d' z => by cases z; rfl
end
end Tn
/-! list(g) in the marked machine. -/
namespace PySem
open Sem (wp)
section
variable {prog : Program} {w : World} {A : Around} {E : Value → Shared → Prop} {s : Shared}
open Gk in
theorem md_callType {T newId initId : String} {Bi : Builtin} {args : List Value} {Q : Value → Shared → Prop} {Q1 : Value → Shared → Prop} (ft : TypeCalled T newId initId)
    (hct : checkTypeCall T ⟨args, []⟩ = pure ()) (entryI : entryFor table initId = some Bi)
    (hnew : codeAny (Md prog w) A.in1 (.call (.builtin newId) ⟨.type T :: args, []⟩) (wants Q1 no) s)
    (hnext : ∀ obj s1, Q1 obj s1 → s1.TypeIs obj T ∧ argsOk initId ⟨obj :: args, []⟩ ∧
      wpAny (Md prog w) A.in1.in1 (Bi ⟨obj :: args, []⟩)
        (fun fin s' => match fin with | .done f => wants (fun r s2 => r = .none ∧ Q obj s2) no (.ok f) s' | .again c' => c'.quiet = true ∧ codeAny (Md prog w) A.in1 c' (wants (fun r s2 => r = .none ∧ Q obj s2) no) s')
        no s1) :
    wpAny (Md prog w) A (call (.type T) args) Q no s := by
  obtain ⟨c, tl, hmro⟩ := ft.mro
  have hmade := ft.made
  have hsub := ft.sub
  refine wpAny_call (md_tree ?_)
  show wpAny _ _ (callAny (.type T) _) _ _ _
  refine wpAny_pure ⟨Code.quiet_builtin _ (by decide +kernel), md_builtin F.entry_type_call ?_⟩
  rw [Around.under_plain (weight_type_call_type T args []) rfl]
  have h1 := ft.notType
  have h2 := ft.canCreate
  repeat (any_goals (first | assumption | wp_step))
  refine codeAny_mono hnew fun r s1 hr => ?_
  cases r with
  | error e => exact hr.elim
  | ok fl =>
    cases fl with
    | ret obj =>
      obtain ⟨hT, hok, hsi⟩ := hnext _ _ hr
      have hli := ft.init.lookup
      have hbi := ft.init.bind obj
      repeat (any_goals (first | assumption | wp_step))
      refine codeAny_mono (md_call_builtin ft.init.plain entryI (ft.init.check _ _ _ _ _ _ _ _ hT hok hsi)) fun r2 s2 hr2 => ?_
      cases r2 with
      | error e => exact hr2.elim
      | ok fl2 =>
        cases fl2 with
        | ret r =>
          obtain ⟨rfl, hq⟩ := hr2
          repeat (any_goals (first | assumption | wp_step))
        | _ => exact hr2.elim
    | _ => exact hr.elim
end
end PySem
namespace Gk
open PySem PySem.Spec PyProof.Rows L2
open Sem (wp)
/-- what is no list stays -/
abbrev ExtL (H H' : Hp) : Prop := ∀ a o, (∀ l, o ≠ .lst l) → H a = some o → H' a = some o
theorem Ext.toL {H H' : Hp} (h : Ext H H') : ExtL H H' := fun a o _ e => h a o e
theorem ExtL.trans {H1 H2 H3 : Hp} (a : ExtL H1 H2) (b : ExtL H2 H3) : ExtL H1 H3 := fun x o n e => b x o n (a x o n e)
theorem ExtL.set {H : Hp} {S : Addr} {vs ws : List V} (e : H S = some (.lst vs)) : ExtL H (upd H S (.lst ws)) := fun b o n q => by
  by_cases h : b = S
  · subst h; rw [e] at q; cases q; exact absurd rfl (n vs)
  · rw [upd_ne h]; exact q
/-- every one of them was handed out, and holds here -/
inductive Gave (H : Hp) : List Item → List V → Prop
  | nil : Gave H [] []
  | cons {x : Item} {v : V} {xs : List Item} {vs : List V} : x v H → Gave H xs vs → Gave H (x :: xs) (v :: vs)
theorem Gave.app {H : Hp} {xs ys : List Item} {vs ws : List V} (h : Gave H xs vs) (k : Gave H ys ws) : Gave H (xs ++ ys) (vs ++ ws) := by
  induction h with
  | nil => exact k
  | cons a _ ih => exact .cons a ih
theorem Gave.up {H H' : Hp} {xs : List Item} {vs : List V} (e : ExtL H H') (st : ∀ x ∈ xs, ∀ v H H', ExtL H H' → x v H → x v H') (h : Gave H xs vs) : Gave H' xs vs := by
  induction h with
  | nil => exact .nil
  | cons a _ ih => exact .cons (st _ List.mem_cons_self _ _ _ e a) (ih fun x hx => st x (List.mem_cons_of_mem _ hx))
theorem Gave.len {H : Hp} {xs : List Item} {vs : List V} (h : Gave H xs vs) : xs.length = vs.length := by
  induction h with
  | nil => rfl
  | cons _ _ ih => simp [ih]

theorem upd_upd {H : Hp} {S : Addr} {a b : HO} : upd (upd H S a) S b = upd H S b := by
  funext x
  by_cases h : x = S
  · subst h; rw [upd_same, upd_same]
  · rw [upd_ne h, upd_ne h, upd_ne h]
section
variable {P : Program} {w : World} {K : PySem.W.Frag} {mg : Str → Option Value} {base : Heap} {k : Nat} {T : Hp → Prop} {it g lo : Nat}
theorem In1.setList {X : Cx} {pins : Pl} {σ : L2.St} {H : Hp} {s : Shared} {S : Addr} {vs : List V} {v : V} {u : Value} {its : List Value} {n : Nat} (I : In1 X pins σ H s) (hS : H S = some (.lst vs)) (hz : vs.length < sizeLine) (ri : Vals vs its) (e : s.heap.get? S = some (lstObj its.toArray n)) (r : RelV v u) :
    In1 X pins σ (upd H S (.lst (vs ++ [v]))) { s with heap := s.heap.update S (Obj.mapSeq (·.push u)) } := by
  have hU := Heap.get?_update_self (Obj.mapSeq (·.push u)) e rfl
  refine ⟨I.inv.write (t' := s.toks) (by rw [hS]; trivial) (.inl rfl) (fun b ob hb q => (Heap.get?_update_other _ _ (Ne.symm hb)).trans q) ⟨_, hU⟩ ⟨by rw [List.length_append]; exact hz, its ++ [u], n + 1, ri.append (.cons r .nil), ?_⟩, fun i k a c p fs cl e => I.told i k a c p fs cl e⟩
  rw [hU]
  simp [Obj.mapSeq, lstObj]
theorem drain1 {A : Around} {R : Result → Shared → Prop} {res : Value} {S : Addr} {o : Obj} {X' : Cx} (host : Host P w K mg base k lo X') (hA : X'.A = A.in1) (h0 : Gen0 o g) (tm : ∀ H H', ExtL H H' → T H → T H')
    (items0 : List Item) (st : ∀ x ∈ items0, ∀ v H H', ExtL H H' → x v H → x v H') (p : Pl) (σ : L2.St) (Hs : Hp) (hSn : Hs S = none)
    (hend : ∀ vs p2 H' s', Sub p p2 → In1 X' p2 σ H' s' → Ext Hs H' → H' S = some (.lst vs) → Gave H' items0 vs → R (.ok (.ret res)) s') :
    ∀ (items : List Item) (done : List Item) (vs : List V) (fp : Pl) (gp : Gl1) (H : Hp) (s : Shared), items0 = done ++ items → In1 X' (fp ++ (it, o) :: p) σ H s → (∀ q ∈ fp, FpOk X' ((it, o) :: p) H q.1) → FpOk X' p H it → GOk gp s → T H → Gd P w K mg base k T it g lo items fp gp →
      Ext Hs H → H S = some (.lst vs) → Gave H done vs → vs.length + items.length ≤ sizeLine →
      codeAny (Md P w) A (.builtin "list.extend.loop" ⟨[.ref S, .ref it, res], []⟩) R s := by
  intro items
  induction items with
  | nil =>
    intro done vs fp gp H s ei I hf hit hg ht gd ex hS hv hl
    refine md_builtin F.entry_extend_loop ?_
    rw [Around.under_plainId F.plain_extend_loop _]
    show wpAny _ A.in1 (pyNext (.ref it) >>= _) _ _ s
    have pre : Pre X' lo T it g fp gp ((it, o) :: p) σ H s := ⟨I, hf, hg, ⟨o, (I.inv.pin (it, o) (List.mem_append_right _ (List.mem_append_right _ List.mem_cons_self))).1, h0⟩, ht⟩
    rw [← hA]
    refine wpAny_bind (pyNext_stop (gd.2.2 X' host _ σ H s _ _ pre fun e fp' H' s' hS' po => ⟨hS', ?_⟩))
    rw [List.append_nil] at ei
    subst ei
    exact wpAny_pure (hend vs _ H' s' (fun q hq => List.mem_append_right _ (List.mem_cons_of_mem _ hq)) po.inv (ex.trans po.ext) (po.ext _ _ hS) (hv.up po.ext.toL st))
  | cons y ys ih =>
    intro done vs fp gp H s ei I hf hit hg ht gd ex hS hv hl
    refine md_builtin F.entry_extend_loop ?_
    rw [Around.under_plainId F.plain_extend_loop _]
    show wpAny _ A.in1 (pyNext (.ref it) >>= _) _ _ s
    have pre : Pre X' lo T it g fp gp ((it, o) :: p) σ H s := ⟨I, hf, hg, ⟨o, (I.inv.pin (it, o) (List.mem_append_right _ (List.mem_append_right _ List.mem_cons_self))).1, h0⟩, ht⟩
    rw [← hA]
    refine wpAny_bind (pyNext_item (gd.2.2 X' host _ σ H s _ no pre fun u v fp' gp' H' s' rv hx po g' su gd' => ⟨u, rfl, ?_⟩))
    have hS1 := po.ext _ _ hS
    obtain ⟨hz, its, n, ri, eS⟩ := po.inv.inv.hok S _ hS1
    have hl' : vs.length + (ys.length + 1) ≤ sizeLine := hl
    have hsz : its.toArray.size < sizeLine := by rw [List.size_toArray, ← ri.length]; omega
    show wpAny _ X'.A (updateSeq S (·.push u) >>= _) _ _ _
    refine wpAny_bind (wpAny_updateSeq eS rfl ?_ (Nat.le_of_lt hsz) (by show (its.toArray.push u).size ≤ sizeLine + 1; rw [Array.size_push]; omega))
    refine wpAny_pure ⟨plainId_quiet F.plain_extend_loop _, ?_⟩
    have J := In1.setList po.inv hS1 (by omega) ri eS rv
    have xl : ExtL H' (upd H' S (.lst (vs ++ [v]))) := ExtL.set hS1
    have e0 : Ext Hs (upd H' S (.lst (vs ++ [v]))) := fun b ob q => by
      have hb : b ≠ S := ne_of_none q hSn
      rw [upd_ne hb]; exact po.ext _ _ (ex _ _ q)
    have old : ∀ {b : Addr}, H' b = none → (upd H' S (.lst (vs ++ [v]))) b = none := fun {b} q => by
      rw [upd_ne (fun z => by rw [z, hS1] at q; cases q)]; exact q
    have q0 := po.inv.inv.pin (it, o) (List.mem_append_right _ (List.mem_append_right _ List.mem_cons_self))
    refine ih (done ++ [y]) (vs ++ [v]) fp' gp' _ _ (by rw [ei]; simp) J (fun q hq => ⟨old (po.fpok q hq).1, (po.fpok q hq).2⟩) ⟨old q0.2.1, hit.2⟩ g' (tm _ _ (po.ext.toL.trans xl) ht) gd' e0 (upd_same ..) ?_ (by simp; omega)
    refine Gave.app (Gave.up (po.ext.toL.trans xl) (fun x hx => st x (by rw [ei]; exact List.mem_append_left _ hx)) hv) (.cons ?_ .nil)
    exact st y (by rw [ei]; simp) _ _ _ xl hx
end
section
variable {X : Cx} {k : Nat}
theorem zb_gens {s s1 sh : Shared} (z : Zb s.gens s1 sh) (h : sh.gens = (lulled s).gens) : s1.gens = s.gens := by
  obtain ⟨G, e, z⟩ := z
  have key : G = s.gens := by
    refine Array.ext_getElem? fun i => ?_
    have hsz : (lulled s).gens.size = s.gens.size := by show (s.gens.map lull).size = _; simp
    rw [h] at z
    rcases Nat.lt_or_ge i s.gens.size with hi | hi
    · have hx : (lulled s).gens[i]? = some (lull s.gens[i]) := by
        show (s.gens.map lull)[i]? = _
        rw [Array.getElem?_map, Array.getElem?_eq_getElem hi]; rfl
      rcases z.cases hx with ⟨k, l, c, p, fs, cl, h1, h2, _⟩ | ⟨h1, h2, _⟩
      · rw [h1, h2]
      · rw [h2, Array.getElem?_eq_getElem hi]
        cases q : s.gens[i] with
        | suspended k l c p fs cl => exact absurd (by rw [Array.getElem?_eq_getElem hi, q]) (h1 k l c p fs cl)
        | _ => rfl
    · rw [Array.getElem?_eq_none hi, Array.getElem?_eq_none (by rw [z.sz, hsz]; exact hi)]
  rw [e, key]
/-- list(g) of a new generator -/
theorem call_list1 {T : Hp → Prop} {items : List Item} {pins : Pl} {σ : L2.St} {H : Hp} {s s' : Shared} {u : Value} {Q : Value → Shared → Prop} (hr : Room (k + 3) X.A) (hc : X.calm = true) (I : In1 X pins σ H s) (m : Made X k T items pins σ H s u s')
    (tm : ∀ H H', ExtL H H' → T H → T H') (st : ∀ x ∈ items, ∀ v H H', ExtL H H' → x v H → x v H') (hl : items.length ≤ sizeLine)
    (hQ : ∀ S vs p2 H' s2, H S = none → Sub pins p2 → In1 X p2 σ H' s2 → Ext H H' → H' S = some (.lst vs) → Gave H' items vs → Q (.ref S) s2) :
    wpAny (Md X.prog X.w) X.A (call (.type "list") [u]) Q no s' := by
  obtain ⟨it, g, lo, o, fp, gp, rfl, m⟩ := m
  have J := m.inv
  have hgo := (J.inv.pin (it, o) (List.mem_append_right _ (List.mem_append_right _ List.mem_cons_self))).1
  have hit : it < s'.heap.objs.size := Heap.lt_size hgo
  have hn : H s'.heap.objs.size = none := J.inv.hok.fresh (Nat.le_refl _)
  have hSa : s'.heap.objs.size ≠ it := Nat.ne_of_gt hit
  have hnew : codeAny (Md X.prog X.w) X.A.in1 (.call (.builtin "list.__new__") ⟨[.type "list", .ref it], []⟩)
      (wants (fun obj s1 => obj = .ref s'.heap.objs.size ∧ s1.heap.get? s'.heap.objs.size = some (lstObj #[] 0) ∧ (∀ b ob, s'.heap.get? b = some ob → s1.heap.get? b = some ob) ∧
        In1 X (fp ++ (it, o) :: pins) σ (upd H s'.heap.objs.size (.lst [])) s1 ∧ GOk gp s1) no) s' := by
    have pl := code_list_new (prog := X.prog) (w := X.w) (A := X.A.in1) (s := lulled s') (E := no) (.ref it)
      (Q₁ := fun obj sh => obj = .ref s'.heap.objs.size ∧ sh = { lulled s' with heap := s'.heap.push { cls := .type "list", data := .seq #[] } }) ⟨rfl, rfl⟩
    refine codeAny_mono (codeAny_bb J.inv.bare pl) fun r s1 ⟨as, sh, z, hr⟩ => ?_
    cases r with
    | error e => exact hr.elim
    | ok fl =>
      cases fl with
      | ret obj =>
        obtain ⟨e1, e2⟩ := hr
        subst e1 e2
        have hh : s1.heap = s'.heap.push { cls := .type "list", data := .seq #[] } := z.heap
        have kk : ∀ b ob, s'.heap.get? b = some ob → s1.heap.get? b = some ob := fun b ob e => by rw [hh]; exact Heap.get?_push_of_some _ e
        have hS : s1.heap.get? s'.heap.objs.size = some (lstObj #[] 0) := by rw [hh]; exact Heap.get?_push_size _ rfl
        refine ⟨rfl, hS, kk, J.of_zb' z ?_, fun q hq => ?_⟩
        · refine (Inv.lulled J.inv).laid (t' := (lulled s').toks) (o := .lst []) (fun b ob e => Heap.get?_push_of_some _ e) (Nat.le_refl _) ⟨Nat.zero_le _, [], 0, .nil, Heap.get?_push_size _ rfl⟩
        · rw [zb_gens z rfl]; exact m.gens q hq
      | _ => exact hr.elim
  refine PySem.md_callType F.called_list (F.typeCall_list_1 _) F.entry_list_init hnew fun obj s1 h1 => ?_
  obtain ⟨rfl, hS, kk, J1, g1⟩ := h1
  refine ⟨⟨_, hS, rfl⟩, F.args_list_init_2 _ _, ?_⟩
  show wpAny _ X.A.in1.in1 (do let old ← Builtin.List.listItems (.ref s'.heap.objs.size); Builtin.List.listUpdate (.ref s'.heap.objs.size) (fun _ => #[]); letGo old.toList.reverse; Builtin.List.listExtendWith (.ref s'.heap.objs.size) (.ref it) .none) _ _ _
  refine wpAny_bind ?_
  unfold Builtin.List.listItems
  refine wpAny_bind (wpAny_seqItems hS rfl (wpAny_pure ?_))
  show wpAny _ X.A.in1.in1 (updateSeq s'.heap.objs.size (fun _ => #[]) >>= fun _ => letGo (#[] : Array Value).toList.reverse >>= fun _ => Builtin.List.listExtendWith (.ref s'.heap.objs.size) (.ref it) .none) _ _ _
  refine wpAny_bind (wpAny_updateSeq hS rfl ?_)
  have hS2 := Heap.get?_update_self (Obj.mapSeq (fun _ => (#[] : Array Value))) hS rfl
  refine wpAny_bind (wpAny_letGo ?_)
  unfold Builtin.List.listExtendWith
  have up : ∀ (h : Heap) (f : Obj → Obj), (∀ b o, b ≠ s'.heap.objs.size → s1.heap.get? b = some o → h.get? b = some o) → ∀ b o, b ≠ s'.heap.objs.size → s1.heap.get? b = some o → (h.update s'.heap.objs.size f).get? b = some o := fun h f q b o hb e =>
    (Heap.get?_update_other _ _ (Ne.symm hb)).trans (q b o hb e)
  have k2 := up _ (Obj.mapSeq (fun _ => (#[] : Array Value))) (fun b o _ e => e)
  have go1 := kk _ _ hgo
  refine wpAny_bind (wpAny_typeOf (s := { s1 with heap := _ }) (Gen0.typeIs (m.obj) (k2 _ _ (Ne.symm hSa) go1)) ?_)
  have h1 : Builtin.List.listSameRef (.ref s'.heap.objs.size) (.ref it) = false := by simp [Builtin.List.listSameRef, hSa]
  have h2 : (Value.type "generator" == Value.type "list") = false := by decide
  have h3 : (Value.type "generator" == Value.type "tuple") = false := by decide
  simp only [h1, h2, h3, Bool.or_false, Bool.false_eq_true, if_false]
  refine wpAny_bind (md_iter_gen (s := { s1 with heap := _ }) (k2 _ _ (Ne.symm hSa) go1) m.obj ?_)
  refine wpAny_bind (wpAny_holding ?_)
  unfold Builtin.List.listLengthHint
  refine wpAny_bind (wpAny_specialOf (s := { s1 with heap := _ }) (Gen0.typeIs (m.obj) (k2 _ _ (Ne.symm hSa) go1)) F.gen_no_len ?_)
  show wpAny _ X.A.in1.in1 (specialOf (Value.ref it) (Str.ofString "__length_hint__") >>= _) _ _ _
  refine wpAny_bind (wpAny_specialOf (s := { s1 with heap := _ }) (Gen0.typeIs (m.obj) (k2 _ _ (Ne.symm hSa) go1)) F.gen_no_hint ?_)
  refine wpAny_pure ?_
  show wpAny _ X.A.in1.in1 (rule "list.extend.makes-room" >>= fun _ => Builtin.List.listTouch (.ref s'.heap.objs.size) >>= fun _ =>
    again (.builtin "list.extend.loop" ⟨[.ref s'.heap.objs.size, .ref it, .none], []⟩)) _ _ _
  refine wpAny_bind (wpAny_rule ?_)
  refine wpAny_bind ?_
  show wpAny _ X.A.in1.in1 (updateSeq s'.heap.objs.size (·.push .none) >>= fun _ => updateSeq s'.heap.objs.size (·.pop)) _ _ _
  refine wpAny_bind (wpAny_updateSeq hS2 rfl ?_)
  have hS3 := Heap.get?_update_self (Obj.mapSeq (·.push Value.none)) hS2 rfl
  refine wpAny_updateSeq (hz := by seq_fits) hS3 rfl ?_
  have hS4 := Heap.get?_update_self (Obj.mapSeq (·.pop)) hS3 rfl
  have k4 := up _ (Obj.mapSeq (·.pop)) (up _ (Obj.mapSeq (·.push Value.none)) k2)
  refine wpAny_pure ⟨plainId_quiet F.plain_extend_loop _, ?_⟩
  have hH0 : (upd H s'.heap.objs.size (.lst [])) s'.heap.objs.size = some (.lst []) := upd_same ..
  have e0 : Ext H (upd H s'.heap.objs.size (.lst [])) := Ext.upd hn
  have J2 : In1 X (fp ++ (it, o) :: pins) σ (upd H s'.heap.objs.size (.lst [])) { s1 with heap := (((s1.heap.update s'.heap.objs.size (Obj.mapSeq (fun _ => (#[] : Array Value)))).update s'.heap.objs.size (Obj.mapSeq (·.push Value.none))).update s'.heap.objs.size (Obj.mapSeq (·.pop))) } := by
    have q := J1.inv.write (t' := s1.toks) (x := s'.heap.objs.size) (e := s'.heap.objs.size) (o := .lst []) (by rw [hH0]; trivial) (.inl rfl) k4 ⟨_, hS4⟩ ⟨Nat.zero_le _, [], _, .nil, hS4⟩
    rw [upd_upd] at q
    exact ⟨q, fun i k a c p fs cl e => J1.told i k a c p fs cl e⟩
  have J3 : In1 { X with A := X.A.in1.in1 } (fp ++ (it, o) :: pins) σ (upd H s'.heap.objs.size (.lst [])) _ := J2.reA (A' := X.A.in1.in1) rfl hr.hd
  have host : Host X.prog X.w X.K X.mg X.base k lo { X with A := X.A.in1.in1 } := by
    refine ⟨rfl, rfl, rfl, rfl, rfl, hc, ⟨hr.hd, ?_, ?_⟩, fun b hb => ?_, fun b hb => .inr (Nat.le_trans I.inv.sz (Nat.le_trans m.los hb)), fun x c e => ?_⟩
    · have := hr.dp; show X.A.depth + 3 * k + 5 < recursionLimit; omega
    · have := hr.un; show X.A.units + 1 + 1 + 16 * k + 200 < cLine; omega
    · obtain ⟨_, o2, ho, _⟩ := I.inv.stack.mem hb
      exact Nat.lt_of_lt_of_le (Heap.lt_size ho) m.los
    · obtain ⟨v, z⟩ := I.inv.cell x c e
      exact Nat.lt_of_lt_of_le z.lt m.los
  have oldn : ∀ {b : Addr} {ob : Obj}, s'.heap.get? b = some ob → H b = none → (upd H s'.heap.objs.size (.lst [])) b = none := fun {b ob} e q => by rw [upd_ne (Nat.ne_of_lt (Heap.lt_size e))]; exact q
  refine drain1 (A := X.A.in1) (S := s'.heap.objs.size) (o := o) host rfl m.obj tm items st pins σ H hn (fun vs p2 H' s2 hs J' ex e gv => ⟨rfl, hQ _ vs p2 H' s2 hn hs (J'.reA (A' := X.A) rfl (I.inv.ok.hd hc)) ex e gv⟩)
    items [] [] fp gp _ _ rfl J3 (fun q hq => ⟨oldn (J.inv.pin q (List.mem_append_right _ (List.mem_append_left _ hq))).1 (m.fpok q hq).1, (m.fpok q hq).2⟩) ⟨oldn hgo m.itok.1, m.itok.2⟩ g1 (m.tm _ _ e0 m.tt) m.gd e0 (upd_same ..) .nil (by simpa using hl)

def tListG1 (tg : TG1) : TE := fun σ H Q => tg σ H fun T items H1 => (∀ H H', ExtL H H' → T H → T H') ∧ (∀ x ∈ items, ∀ v H H', ExtL H H' → x v H → x v H') ∧ items.length ≤ sizeLine ∧
  ∀ S vs H', H1 S = none → Ext H1 H' → H' S = some (.lst vs) → Gave H' items vs → Q (.ref S) H'
/-- the expression list(g) -/
theorem pe_listG1 {e : Expr} {tg : TG1} {nm : Str} {p pos : Pos} (h : PGen1 X k e tg) (hr : Room (k + 3) X.A) (hc : X.calm = true) (hg : L2.Gl X nm) (hmg : X.mg nm = none) (hv : bootBuiltins nm = some (.type "list")) (hnm : nm ≠ "__name__" := by decide) (hdb : (nm == ("__debug__" : Str)) = false := by decide)
    (he : starEach [e] X.env = (false, eval e X.env) :: starEach [] X.env := by rfl) : PE1 X (.Call (.Name nm p) [e] [] pos) (tListG1 tg) := by
  refine ⟨fun pins s σ H Q I hq => ?_⟩
  obtain ⟨mb, h1, h2⟩ := I.inv.mod.blt
  refine wpAny_Call_Name_kw (Calls.Name_function_global I.inv.ok.kind hg (Calls.loadGlobal_builtin (by rw [I.inv.ok.glob]; exact I.inv.mod.glob.keeps I.inv.bk) hmg (by rw [I.inv.ok.blt]; exact h1.keeps I.inv.bk) ((h2 nm hnm).trans hv) ?_) hdb)
  refine PyProof.Rows.callWith_type1 ?_ he rfl
  rw [he]
  show wpAny _ _ (spliced ((false, eval e X.env) :: backTo pos (starEach [] X.env))) _ _ s
  refine Calls.spliced_cons (mo (h.run pins s σ H _ I hq) fun u s' ⟨p2, H1, s1, T, items, hs, I1, m, tm, st, hl, q⟩ => ?_)
  refine Calls.spliced_nil ?_
  exact call_list1 hr hc I1 m tm st hl fun S vs p3 H' s2 hn hs3 J ex eS gv => ⟨p3, .ref S, H', hs.trans hs3, J, rfl, q S vs H' hn ex eS gv⟩
end
end Gk
/-! A set of texts, told by the list of its members; .add and sorted of it. -/
namespace Gk
open PySem PySem.Spec PyProof.Rows L2
open Sem (wp)

/-! ### the table's state, without its entries -/
/-- the table can be walked in its order -/
structure TabOk (w : World) (t : SetTable) (m : Nat) : Prop where
  fits : t.fits m = true
  ris : Ris t.place.toList
  led : w.params.followText "set-order" = true ∨ t.led = true
theorem TabOk.lay {w : World} {t : SetTable} {es : Array (Int × Value)} (T : TabOk w t es.size) (i : Int) (v : Value) : TabOk w (layNew t es i v).2.1 (layNew t es i v).1.size :=
  ⟨layNew_fits t es i v, layNew_ris t es i v T.ris, T.led.imp id fun e => (layNew_led t es i v).trans e⟩
theorem TabOk.off {w : World} {t : SetTable} {m : Nat} (T : TabOk w t m) : ∀ b : Bool, TabOk w (if b = true then t else { t with plain := false }) m
  | true => T
  | false => ⟨SetTable.fits_plain_off T.fits, T.ris, T.led⟩
theorem TabOk.relay {w : World} {t : SetTable} {es : Array (Int × Value)} (T : TabOk w t es.size) (c : Nat) : TabOk w (relayAll t es c).2.1 (relayAll t es c).1.size :=
  ⟨relayAll_fits t es c, relayAll_ris t es c, T.led.imp id fun e => (relayAll_led t es c).trans e⟩

/-! ### entries that are texts -/
def Texts (w : World) (l : List (Int × Value)) (ks : List Str) : Prop := (∀ e ∈ l, ∃ k tk, e = (hashStr w k, Value.str k tk)) ∧ (l.map fun e => strOf e.2).Perm ks
section
variable {P : Program} {w : World} {l m : List (Int × Value)} {ks js : List Str}
theorem Texts.nil : Texts w [] [] := ⟨fun e he => (nomatch he), List.Perm.refl _⟩
theorem Texts.perm (T : Texts w l ks) (p : m.Perm l) : Texts w m ks := ⟨fun e he => T.1 e (p.mem_iff.mp he), (p.map _).trans T.2⟩
theorem Texts.more (T : Texts w l ks) (k : Str) (tk : Tok) : Texts w (l ++ [(hashStr w k, .str k tk)]) (k :: ks) := by
  refine ⟨fun e he => ?_, ?_⟩
  · rcases List.mem_append.mp he with he | he
    · exact T.1 e he
    · exact ⟨k, tk, List.mem_singleton.mp he⟩
  · rw [List.map_append]
    exact (List.perm_append_comm).trans (T.2.cons k)
theorem Texts.len (T : Texts w l ks) : l.length = ks.length := by rw [← T.2.length_eq, List.length_map]
theorem Texts.elems (T : Texts w l ks) : ElemsOf (PySem.strKind P w) l := fun e he => by
  obtain ⟨k, tk, rfl⟩ := T.1 e he
  exact ⟨⟨k, strKind_is P w k tk, rfl⟩, rfl⟩
/-- whom the entries hold -/
theorem Texts.has (T : Texts w l ks) (k : Str) : k ∈ ks ↔ ∃ e ∈ l, (PySem.strKind P w).is k e.2 = true := by
  rw [← T.2.mem_iff, List.mem_map]
  refine exists_congr fun e => and_congr_right fun he => ?_
  obtain ⟨j, tk, rfl⟩ := T.1 e he
  rw [KeyKind.is_eq_decide (strKind_is P w j tk) k, decide_eq_true_eq]
  exact eq_comm
theorem Texts.strs (T : Texts w l ks) {vs : List Value} (p : vs.Perm (l.map (·.2))) : StrsAre vs (vs.map strOf) ∧ (vs.map strOf).Perm ks := by
  refine ⟨strsAre_map vs fun v hv => ?_, ?_⟩
  · obtain ⟨e, he, rfl⟩ := List.mem_map.mp (p.mem_iff.mp hv)
    obtain ⟨k, tk, rfl⟩ := T.1 e he
    exact ⟨k, tk, rfl⟩
  · have q := p.map strOf
    rw [List.map_map] at q
    exact q.trans T.2
end

/-! ### the set at an address -/
/-- at a stands a set whose members are ks, each once -/
def TSet (w : World) (h : Heap) (a : Addr) (ks : List Str) : Prop :=
  ∃ o es ep t, h.get? a = some o ∧ (o.ExactSet ∧ o.data = .set es ep t) ∧ Texts w es.toList ks ∧ ks.Nodup ∧ ks.length < scanBound ∧ TabOk w t es.size
/-- with one more -/
def withK (ks : List Str) (k : Str) : List Str := if k ∈ ks then ks else k :: ks
theorem withK_mem {ks : List Str} {k j : Str} : j ∈ withK ks k ↔ j ∈ ks ∨ j = k := by
  unfold withK
  split
  · rename_i h
    exact ⟨.inl, fun z => z.elim id fun e => e ▸ h⟩
  · rw [List.mem_cons]; exact Or.comm
theorem withK_len {ks : List Str} {k : Str} : (withK ks k).length ≤ ks.length + 1 := by
  unfold withK
  split
  · omega
  · rw [List.length_cons]; omega
section
variable {P : Program} {w : World} {h h2 : Heap} {a : Addr} {ks : List Str} {A : Around} {E : Value → Shared → Prop} {s : Shared}
theorem TSet.keep (T : TSet w h a ks) (k : ∀ o, h.get? a = some o → h2.get? a = some o) : TSet w h2 a ks := by
  obtain ⟨o, es, ep, t, e, r⟩ := T
  exact ⟨o, es, ep, t, k o e, r⟩
theorem TSet.there (T : TSet w h a ks) : ∃ o, h.get? a = some o := by
  obtain ⟨o, _, _, _, e, _⟩ := T
  exact ⟨o, e⟩
theorem TSet.is (T : TSet w s.heap a ks) : s.TypeIs (.ref a) "set" := by
  obtain ⟨o, _, _, _, e, ⟨x, _⟩, _⟩ := T
  exact ⟨o, e, x.1⟩
theorem TSet.empty (e : h.get? a = some { cls := .type "set", dict := none, data := .set #[] 0 (.fresh 0 0 (!w.params.followText "set-order")) }) : TSet w h a [] := by
  refine ⟨_, #[], 0, _, e, ⟨⟨rfl, rfl, rfl⟩, rfl⟩, Texts.nil, .nil, by decide, by rfl, .nil, ?_⟩
  show w.params.followText "set-order" = true ∨ (!w.params.followText "set-order") = true
  cases w.params.followText "set-order"
  · exact .inr rfl
  · exact .inl rfl
/-- what is stored over it is the set again -/
theorem TSet.put {o : Obj} {es fs : Array (Int × Value)} {ep : Nat} {t u : SetTable} {js : List Str} (e : s.heap.get? a = some o) (x : o.ExactSet) (d : o.data = .set es ep t) (T : Texts w fs.toList js) (nd : js.Nodup) (sz : js.length < scanBound) (O : TabOk w u fs.size) {Q : Unit → Shared → Prop}
    (q : ∀ g, Heap.SameBut a s.heap g → (∃ o', g.get? a = some o' ∧ o'.ExactSet ∧ o'.data = .set fs (ep + 1) u) → TSet w g a js → Q () { s with heap := g }) : wpAny (model P w) A (storeSet a fs u) Q E s := by
  have le : fs.size < scanBound := by rw [← Array.length_toList, T.len]; exact sz
  refine wpAny_storeSet_of e d ?_ (fits_of_scanBound le)
  have there : (s.heap.update a (Obj.putSet fs u)).get? a = some { o with data := .set fs (ep + 1) u } := by
    rw [← putSet_of fs u d]
    exact Heap.get?_update_self _ e (by rw [putSet_of fs u d]; rfl)
  exact q _ (.update ..) ⟨_, there, x, rfl⟩ ⟨_, fs, ep + 1, u, there, ⟨x, rfl⟩, T, nd, sz, O⟩
/-- a rule that may be told -/
def Told1 (P : Program) (w : World) (A : Around) (E : Value → Shared → Prop) (g : Bool → Sem Unit) : Prop := ∀ (b : Bool) (s : Shared) (Q : Unit → Shared → Prop), Q () s → wpAny (model P w) A (g b) Q E s
/-- a text's hash is known: it joins the set -/
theorem TSet.join {k : Str} {tk : Tok} {Q : Bool → Shared → Prop} (T : TSet w s.heap a ks) (room : ks.length + 1 < scanBound) (q : ∀ g, Heap.SameBut a s.heap g → TSet w g a (withK ks k) → Q (!decide (k ∈ ks)) { s with heap := g }) :
    wpAny (model P w) A (setAddHashed a (.str k tk) ((PySem.strKind P w).hash k)) Q E s := by
  obtain ⟨o, es, ep, t, e, ⟨x, d⟩, X, nd, sz, O⟩ := id T
  have le : es.size < scanBound := by rw [← Array.length_toList, X.len]; exact sz
  have mine : (PySem.strKind P w).is k (.str k tk) = true := strKind_is P w k tk
  unfold setAddHashed setAddHashedIn
  refine wpAny_holding (wpAny_bind (wpAny_setState_of e d O.fits ?_))
  dsimp only
  rw [byScan_of (show (Value.str k tk).scannable = true from rfl) le (X.elems (P := P)), if_pos rfl]
  unfold setAddByScan
  refine wpAny_bind (wpAny_bind (wpAny_rule (wpAny_bind (wpAny_setScan_of mine e d O.fits (X.elems (P := P)) ?_))))
  by_cases hk : k ∈ ks
  · -- it is a member
    obtain ⟨en, hen, his⟩ := (X.has (P := P) k).mp hk
    obtain ⟨j, hj⟩ : ∃ j, es.toList.findIdx? (fun e => (PySem.strKind P w).is k e.2) = some j := by
      cases z : es.toList.findIdx? (fun e => (PySem.strKind P w).is k e.2) with
      | some j => exact ⟨j, rfl⟩
      | none =>
        have c := List.findIdx?_eq_none_iff.mp z en hen
        rw [his] at c; cases c
    rw [hj]
    have r := q s.heap (.refl ..) (by unfold withK; rw [if_pos hk]; exact T)
    rw [decide_eq_true hk] at r
    exact wpAny_pure (wpAny_pure r)
  · -- it is none
    have hj : es.toList.findIdx? (fun e => (PySem.strKind P w).is k e.2) = none := List.findIdx?_eq_none_iff.mpr fun en hen => by
      cases z : (PySem.strKind P w).is k en.2 with
      | false => rfl
      | true => exact absurd ((X.has (P := P) k).mpr ⟨en, hen, z⟩) hk
    rw [hj]
    dsimp only
    have wk : withK ks k = k :: ks := by unfold withK; rw [if_neg hk]
    rw [wk, decide_eq_false hk] at q
    have nd1 : (k :: ks).Nodup := List.nodup_cons.mpr ⟨hk, nd⟩
    have laid := layNew_perm t es ((PySem.strKind P w).hash k) (.str k tk)
    rw [Array.toList_push] at laid
    have X1 := (X.more k tk).perm laid
    have O1 := O.lay ((PySem.strKind P w).hash k) (.str k tk)
    generalize layNew t es ((PySem.strKind P w).hash k) (.str k tk) = L at laid X1 O1 ⊢
    obtain ⟨fs, u, dum, gave⟩ := L
    dsimp only at X1 O1 ⊢
    have told : Told1 P w A E (fun b => match b with | true => rule "set.scan.the-table-gave-way" | false => pure ()) := fun b s Q h => by
      cases b
      · exact wpAny_pure h
      · exact wpAny_rule h
    -- the end of it, whatever stands for the rule
    have last : ∀ (g : Bool → Sem Unit), Told1 P w A E g → ∀ v : SetTable, TabOk w v fs.size → ∀ R : Option Bool → Shared → Prop, (∀ h', Q true { s with heap := h' } → R (some true) { s with heap := h' }) →
        wpAny (model P w) A (do
          storeSet a fs v
          if (!dum && v.tooFull) = true then do
            g (relayAll v fs (SetTable.grown fs.size)).2.2
            storeSet a (relayAll v fs (SetTable.grown fs.size)).1 (relayAll v fs (SetTable.grown fs.size)).2.1
            pure (some true)
          else pure (some true)) R E s := fun g hg v V R hR => by
      refine wpAny_bind (TSet.put e x d X1 nd1 room V fun h1 s1 ⟨o1, e1, x1, d1⟩ T1 => ?_)
      cases (!dum && v.tooFull) with
      | false => exact wpAny_pure (hR _ (q h1 s1 T1))
      | true => exact wpAny_bind (hg _ _ _ (wpAny_bind (TSet.put (s := { s with heap := h1 }) e1 x1 d1 (X1.perm (relayAll_perm v fs _)) nd1 room (V.relay _) fun h2 s2 _ T2 => wpAny_pure (hR _ (q h2 (s1.trans s2) T2)))))
    refine wpAny_bind (told _ _ _ ?_)
    split
    · refine wpAny_bind ?_
      rw [hashByValue_scannable 8 (show (Value.str k tk).scannable = true from rfl)]
      exact wpAny_pure (last _ told _ (O1.off _) _ fun h' r => wpAny_pure r)
    · refine wpAny_bind (wpAny_pure ?_)
      exact last _ told _ (O1.off true) _ fun h' r => wpAny_pure r
/-- a.add(k) -/
theorem TSet.add {k : Str} {tk : Tok} {Q : Value → Shared → Prop} (T : TSet w s.heap a ks) (room : ks.length + 1 < scanBound) (q : ∀ g, Heap.SameBut a s.heap g → TSet w g a (withK ks k) → Q .none { s with heap := g, toks := s.toks + 1 }) :
    wpAny (model P w) A (call (.builtin "set.add") [.ref a, .str k tk]) Q E s := by
  refine wpAny_call_entry F.slot_set_add T.is F.entry_set_add ?_ (F.args_set_add_2 _ _)
  have one : wpAny (model P w) A.in1 (setAdd a (.str k tk)) (fun _ s' => Q .none s') E s := by
    unfold setAdd
    refine wpAny_holding (wpAny_bind ((PySem.strKind P w).pyHash (strKind_is P w k tk) ?_))
    exact TSet.join (s := { s with toks := s.toks + 1 }) T room q
  unfold Builtin.«set.add» Builtin.Frozenset.oneOther
  dsimp only
  repeat (first
    | refine wpAny_bind (m := setAdd a (.str k tk)) (wpAny_mono one (fun _ s' h => ?_) fun _ _ z => z)
    | exact wpAny_pure ⟨_, rfl, h⟩
    | refine wpAny_bind (m := ret Value.none) (wpAny_pure ?_)
    | refine wpAny_bind (wpAny_pure ?_)
    | refine wpAny_bind ?_)
end
/-! ### it as an object of the layer -/
def SetSO (w : World) (a : Addr) (ks : List Str) : HO := .ext fun h => TSet w h a ks
theorem setSO_new {w : World} {P : Program} {H : Hp} {h : Heap} {a : Addr} {ks : List Str} (T : TSet w h a ks) : ObjOk P w H h a (SetSO w a ks) := ⟨T, T.there, fun _ _ t k => t.keep k⟩
section
variable {X : Cx} {pins : List (Addr × Obj)} {σ : L2.St} {H : Hp} {s : Shared} {E : Value → Shared → Prop} {D : Addr} {ks : List Str}
theorem setSO_at (I : Inv X pins σ H s) (e : H D = some (SetSO X.w D ks)) : TSet X.w s.heap D ks := (I.hok D _ e).1
theorem addS_ok {y : Str} {tk : Tok} {Q : Value → Shared → Prop} (I : Inv X pins σ H s) (e : H D = some (SetSO X.w D ks)) (room : ks.length + 1 < scanBound) (q : ∀ s', Inv X pins σ (upd H D (SetSO X.w D (withK ks y))) s' → Q .none s') :
    wpAny (model X.prog X.w) X.A (call (.builtin "set.add") [.ref D, .str y tk]) Q E s :=
  (setSO_at I e).add room fun g same T => q _ (I.write (t' := s.toks + 1) (x := D) (by rw [e]; trivial) (.inl rfl) (fun b u n hu => (same.2 b n).trans hu) T.there (setSO_new T))
end

/-! ### sorted of it -/
section
variable {P : Program} {w : World} {A : Around} {E : Value → Shared → Prop} {s : Shared} {ks : List Str}
/-- a list of texts is sorted where it stands -/
theorem sort_here {p : Addr} {vs : List Value} {xs : List Str} {Q : Value → Shared → Prop} (e : s.heap.get? p = some (seqObj "list" vs.toArray 0)) (V : StrsAre vs xs) (few : vs.length < 64)
    (q : ∀ (out : Array Value) (ss : List Str) (h : Heap) (c : Nat), (∀ b u, b ≠ p → s.heap.get? b = some u → h.get? b = some u) → h.get? p = some (seqObj "list" out c) → StrsAre out.toList ss → ss.Perm xs → Q .none { s with heap := h }) :
    wpAny (model P w) A (call (.builtin "list.sort") [.ref p]) Q E s := by
  refine wpAny_call_entry slot_list_sort ⟨_, e, rfl⟩ entry_list_sort (list_sort_treeK strKind_oneLt e V.keysOf (fun v1 v2 rest z => keyKind_strs (by rw [← z]; exact V)) few fun st hp hs => ⟨_, rfl, ?_⟩) (args_list_sort _)
  obtain ⟨ss, a1, a2, _⟩ := sorted_out_str V hp hs
  obtain ⟨c, hc⟩ := sortedHeap_at (vs := vs) (out := (arrOf st).map (·.2)) e
  exact q _ ss _ c (fun b u n hu => by rw [sortedHeap_old n (Heap.lt_size hu)]; exact hu) hc a1 a2
theorem TSet.sorted {a : Addr} {Q : Value → Shared → Prop} (T : TSet w s.heap a ks) (idle : A.handled = none) (few : ks.length < 64)
    (q : ∀ s' p (out : Array Value) (c : Nat) (ss : List Str), (∀ b o, s.heap.get? b = some o → s'.heap.get? b = some o) → s'.gens = s.gens → s'.os = s.os → s.heap.objs.size ≤ p → s'.heap.get? p = some (seqObj "list" out c) → StrsAre out.toList ss → ss.Perm ks → Q (.ref p) s') :
    wpAny (model P w) A (call (.builtin "sorted") [.ref a]) Q E s := by
  obtain ⟨o, es, ep, t, e, ⟨x, d⟩, X, nd, sz, O⟩ := T
  have le : es.size < scanBound := by rw [← Array.length_toList, X.len]; exact sz
  refine Calls.call_function_entry kind_sorted plain_sorted entry_sorted (args_sorted1 _) ?_
  unfold Builtin.«sorted»
  refine wpAny_bind (m := checkCount "sorted" 1 1 _) (wpAny_pure (wpAny_bind (collect_set (A := A.in1) idle ⟨o, e, x.1, d⟩ O.fits le O.ris O.led fun s1 vs keep grew gens os perm => ?_)))
  obtain ⟨V, pm⟩ := X.strs perm
  have n1 : vs.length = ks.length := by rw [← pm.length_eq, List.length_map]
  refine wpAny_bind (wpAny_newList (wpAny_bind (wpAny_holding (sort_here (s := { s1 with heap := s1.heap.push (seqObj "list" vs.toArray 0) }) (Heap.get?_push_size _ rfl) V (by rw [n1]; exact few) fun out ss h c old new S1 S2 => ?_))) (by rw [n1, sizeLine_eq]; omega))
  refine wpAny_pure ⟨_, rfl, q { s1 with heap := h } s1.heap.objs.size out c ss (fun b u hu => ?_) gens os grew new S1 (S2.trans pm)⟩
  have hb := keep b u hu
  exact old b u (Nat.ne_of_lt (Heap.lt_size hb)) (Heap.get?_push_of_some _ hb)
end
theorem vals_strs {us : List Value} {ss : List Str} (h : StrsAre us ss) : Vals (ss.map V.str) us := by
  induction h with
  | nil => exact .nil
  | cons v t _ ih => exact .cons ⟨t, rfl⟩ ih
section
variable {X : Cx}
/-- sorted(s): s a set of texts -/
def rSortS (w : World) : List V → Hp → VK → Prop := fun xs H Q => ∃ a ks, xs = [.ref a] ∧ H a = some (SetSO w a ks) ∧ ks.length < 64 ∧ ∀ (p : Addr) (ss : List Str), H p = none → ss.Perm ks → ss.Nodup → Q (.ref p) (upd H p (.lst (ss.map V.str)))
theorem cr_sortSetS (calm : X.calm = true) : CallR X (.builtin "sorted") (rSortS X.w) := by
  intro pins s σ H xs us Q I r h
  obtain ⟨a, ks, rfl, e, few, q⟩ := h
  rw [Vals.ref1 r]
  have T := setSO_at I e
  have nd : ks.Nodup := by
    obtain ⟨_, _, _, _, _, _, _, nd, _⟩ := T
    exact nd
  refine T.sorted (I.ok.hd calm) few fun s' p out c ss keep gens os hp new S1 S2 => ?_
  have fresh : H p = none := I.hok.fresh hp
  have J := I.laid (h' := s'.heap) (t' := s'.toks) (o := .lst (ss.map V.str)) keep hp ⟨by rw [List.length_map, S2.length_eq]; exact Nat.le_of_lt (Nat.lt_of_lt_of_le few (by decide)), out.toList, c, vals_strs S1, by rw [new]⟩
  exact ⟨.ref p, _, I.call' (ch := []) os (Un.laid keep hp fresh) J.hok (by rw [gens]; exact I.bare) (fun _ z => nomatch z), rfl, q p ss fresh S2 (S2.nodup_iff.mpr nd)⟩
end
end Gk
/-! Set and dict comprehensions in the marked machine. -/
namespace Gk
open PySem PySem.Spec PyProof.Rows L2
open Sem (wp)

section
variable {X : Cx} {iter : Expr} {pos : Pos}
/-- a plain run that grows the heap alone -/
theorem md_plain {α : Type} {P : Program} {w : World} {A : Around} {s : Shared} {t : Sem α} {u : α} {h' : Heap} {n : Nat} {Q : α → Shared → Prop} (hb : AllBare s.gens) (h : wpAny (model P w) A t (fun v sh => v = u ∧ sh = { lulled s with heap := h', toks := n }) no (lulled s))
    (q : Q u { s with heap := h', toks := n }) : wpAny (Md P w) A t Q no s := by
  refine wpAny_mono (wpAny_bb hb h) (fun v s' ⟨_, sh, z, e, e2⟩ => ?_) fun _ _ ⟨_, _, _, z⟩ => z
  subst e e2
  have g := zb_gens (s := s) z rfl
  obtain ⟨G, e3, _⟩ := z
  subst e3
  have g' : G = s.gens := g
  subst g'
  exact q
theorem md_newSet {P : Program} {w : World} {A : Around} {s : Shared} {Q : Value → Shared → Prop} (hb : AllBare s.gens) (h : Q (.ref s.heap.objs.size) { s with heap := s.heap.push { cls := .type "set", dict := none, data := .set #[] 0 (.fresh 0 0 (!w.params.followText "set-order")) } }) :
    wpAny (Md P w) A (newSet (.type "set")) Q no s := by
  exact md_plain hb (PpSet.newSet_ok (s := lulled s) (E := no) (Q := fun u sh => u = .ref s.heap.objs.size ∧ sh = { lulled s with heap := s.heap.push { cls := .type "set", dict := none, data := .set #[] 0 (.fresh 0 0 (!w.params.followText "set-order")) }, toks := s.toks }) ⟨rfl, rfl⟩) h
/-- what a turn adds to a set of texts -/
def tAddS (w : World) (te : TE) (D : Addr) (σ : L2.St) (H : Hp) (Q : Hp → Prop) : Prop := te σ H fun y H4 => ∃ x ks, y = .str x ∧ H4 D = some (SetSO w D ks) ∧ ks.length + 1 < scanBound ∧ Q (upd H4 D (SetSO w D (withK ks x)))
theorem pem_set {elt : Expr} {te : TE} {D : Addr} (hx : Nox X) (he : PE1 X elt te) : PEm X (do let v ← eval elt X.env; standAt elt.pos; let _ ← call (.builtin "set.add") [.ref D, v]) (tAddS X.w te D) := by
  refine ⟨fun pins s σ H Q I h => wpAny_bind (mo (he.run pins s σ H _ I h) fun u s1 ⟨p1, y, H4, z1, I1, r1, x, ks, e, hD, hz, q⟩ => wpAny_bind (wpAny_standAt (wpAny_bind ?_)))⟩
  subst e
  obtain ⟨tk, rfl⟩ := r1
  refine mo (in1_stepH (A := X.A) (R := fun _ σ' H' _ => σ' = σ ∧ Q H') I1 (addS_ok (s := lulled s1) (Inv.lulled I1.inv) hD hz fun s' J => ⟨σ, _, J, rfl, q⟩)) fun _ s2 ⟨_, σ', H', J, e, q⟩ => wpAny_pure ⟨p1, H', z1, by subst e; exact J, q⟩
theorem turnq_set (elt target iter : Expr) (ifs : List Expr) (scope : Scope) (pos : Pos) : TurnEq (.SetComp elt [⟨target, iter, ifs, 0⟩] scope pos) target iter ifs (fun acc env => do let v ← eval elt env; standAt elt.pos; let _ ← call (.builtin "set.add") [acc, v]) := fun it D env => PpSet.compTurn_set elt target iter ifs scope pos it (.ref D) env
theorem pe_sc1 {elt tg : Expr} {te : TE} {ifs : List Expr} {scope : Scope} {own : List (Str × Nat)} {wi : TI1} {g : TG} {tt : TT} (hx : Nox X) (hN : X.N.Nodup) (hi : PI1 X tg iter wi) (ok : BlkOk X.N X.env.scope scope own) (hnocell : ∀ y ∈ scope.names, y.2 ≠ .cell)
    (hg : ∀ (s : Shared) (H : Hp) (C : Addr) (cl : List (Str × Addr)) (fp : List Addr), PG (X.blk s H scope (compEnvC scope cl C X.env) fp) tg g) (ht : ∀ (s : Shared) (H : Hp) (C : Addr) (cl : List (Str × Addr)) (fp : List Addr), PTs (X.blk s H scope (compEnvC scope cl C X.env) fp) ifs tt)
    (he : ∀ (s : Shared) (H : Hp) (C : Addr) (cl : List (Str × Addr)) (fp : List Addr), PE1 (X.blk s H scope (compEnvC scope cl C X.env) fp) elt te) (hs : ∀ x, foldedSetIterable iter X.env x = pure x := by intro _; rfl) :
    PE1 X (.SetComp elt [⟨tg, iter, ifs, 0⟩] scope pos) (tCm wi g tt (tAddS X.w te) (fun D => SetSO X.w D []) (own.map (·.2))) := by
  refine ⟨fun pins s σ H Q I h => ?_⟩
  rw [PpSet.eval_SetComp]
  refine comp1 (emit := fun acc env => do let v ← eval elt env; standAt elt.pos; let _ ← call (.builtin "set.add") [acc, v]) (h0 := fun D => SetSO X.w D []) (oAcc := { cls := .type "set", dict := none, data := .set #[] 0 (.fresh 0 0 (!X.w.params.followText "set-order")) }) hx hN hi ok hnocell rfl (turnq_set elt tg iter ifs scope pos) (by intro _ _ _ _ z; cases z) (fun {A s Q} hb q => md_newSet hb q) (fun H h D _ e => setSO_new (TSet.empty e)) rfl hg ht (fun s H C cl fp D => pem_set (fun _ _ z => z) (he s H C cl fp)) hs I h

/-! ### dicts -/
def tPutD (tk tv : TE) (D : Addr) (σ : L2.St) (H : Hp) (Q : Hp → Prop) : Prop := tk σ H fun y H4 => tv σ H4 fun z H5 => ∃ kvs k, y = kV k ∧ H5 D = some (.dK kvs) ∧ kvs.length < sizeLine ∧ Q (upd H5 D (.dK (putK kvs k z)))
def emD (kx vx : Expr) (acc : Value) (env : Env) : Sem Unit := match acc with
  | .ref D => do
    let kv ← eval kx env
    let vv ← holding [kv] (eval vx env)
    standAt { kx.pos with endLine := vx.pos.endLine, endCol := vx.pos.endCol }
    holding [kv, vv] (dictSet D kv vv)
  | _ => pure ()
theorem pem_dict {kx vx : Expr} {tk tv : TE} {D : Addr} (hx : Nox X) (hk : PE1 X kx tk) (hv : PE1 X vx tv) : PEm X (emD kx vx (.ref D) X.env) (tPutD tk tv D) := by
  refine ⟨fun pins s σ H Q I h => ?_⟩
  unfold emD
  refine wpAny_bind (mo (hk.run pins s σ H _ I h) fun u s1 ⟨p1, y, H4, z1, I1, r1, q1⟩ => ?_)
  refine wpAny_bind (wpAny_holding (mo (hv.run p1 s1 σ H4 _ I1 q1) fun u2 s2 ⟨p2, z, H5, z2, I2, r2, kvs, k, e, hD, hz, q⟩ => ?_))
  subst e
  refine wpAny_bind (wpAny_standAt (wpAny_holding ?_))
  refine mo (in1_stepH (A := X.A) (R := fun _ σ' H' _ => σ' = σ ∧ Q H') I2 (d_dictSet (s := lulled s2) (Inv.lulled I2.inv) hD hz r1 r2 fun s' J => ⟨σ, _, J, rfl, q⟩)) fun _ s3 ⟨_, σ', H', J, e, q⟩ => ⟨p2, H', z1.trans z2, by subst e; exact J, q⟩
theorem turnq_dict (kx vx target iter : Expr) (ifs : List Expr) (scope : Scope) (pos : Pos) : TurnEq (.DictComp kx vx [⟨target, iter, ifs, 0⟩] scope pos) target iter ifs (emD kx vx) := fun it D env => compTurn_dict kx vx target iter ifs scope pos it D env
theorem pe_dc1 {kx vx tg : Expr} {tk tv : TE} {ifs : List Expr} {scope : Scope} {own : List (Str × Nat)} {wi : TI1} {g : TG} {tt : TT} (hx : Nox X) (hN : X.N.Nodup) (hi : PI1 X tg iter wi) (ok : BlkOk X.N X.env.scope scope own) (hnocell : ∀ y ∈ scope.names, y.2 ≠ .cell)
    (hg : ∀ (s : Shared) (H : Hp) (C : Addr) (cl : List (Str × Addr)) (fp : List Addr), PG (X.blk s H scope (compEnvC scope cl C X.env) fp) tg g) (ht : ∀ (s : Shared) (H : Hp) (C : Addr) (cl : List (Str × Addr)) (fp : List Addr), PTs (X.blk s H scope (compEnvC scope cl C X.env) fp) ifs tt)
    (hk : ∀ (s : Shared) (H : Hp) (C : Addr) (cl : List (Str × Addr)) (fp : List Addr), PE1 (X.blk s H scope (compEnvC scope cl C X.env) fp) kx tk) (hv : ∀ (s : Shared) (H : Hp) (C : Addr) (cl : List (Str × Addr)) (fp : List Addr), PE1 (X.blk s H scope (compEnvC scope cl C X.env) fp) vx tv) (hs : ∀ x, foldedSetIterable iter X.env x = pure x := by intro _; rfl) :
    PE1 X (.DictComp kx vx [⟨tg, iter, ifs, 0⟩] scope pos) (tCm wi g tt (tPutD tk tv) (fun _ => .dK []) (own.map (·.2))) := by
  refine ⟨fun pins s σ H Q I h => ?_⟩
  rw [arm_eval_DictComp]
  exact comp1 (emit := emD kx vx) (h0 := fun _ => .dK []) (oAcc := { cls := .type "dict", data := .dict #[] }) hx hN hi ok hnocell rfl (turnq_dict kx vx tg iter ifs scope pos) (by intro _ _ _ _ z; cases z) (fun {A s Q} _ q => wpAny_newObj_type q) (fun H h D hb e => ⟨Nat.zero_le _, beq_eq_false_iff_ne.mpr (Nat.ne_of_gt hb), [], .nil, _, #[], 0, e, ⟨rfl, rfl, rfl⟩, rfl, fun _ z => by simp at z, Pairs.nil, List.nodup_nil⟩) rfl hg ht (fun s H C cl fp D => pem_dict (fun _ _ z => z) (hk s H C cl fp) (hv s H C cl fp)) hs I h
end
end Gk
/-! Loops and comprehensions of the marked machine, by a word. -/
namespace Tn
open PySem PySem.Spec PyProof.Rows L2 Gk
theorem nx {X : Cx} : Nox X.nox := fun _ _ z => z
theorem fn_mdD {P : Program} {w : World} {K : PySem.W.Frag} {mg : Str → Option Value} {base : Heap} {x qual : Str} {params : Arguments} {body : List Stmt} {scope : Scope} {dvs : List V} {kws : List (Str × V)} {f : Addr} {fd : FuncData} {N ps : List Str} {sp : Sp} {k : Nat}
    (F : FunD K x qual params body scope dvs kws f fd) (S : FnScope N ps scope) (len : ∀ vs H Q E, sp vs H Q E → vs.length = ps.length)
    (hbody : ∀ (cdv : Value) (A : Around) (outer : List Env) (s : Shared) (H : Hp) (vs : List V) (Q : VK), Room k (A.deeper (envOfC qual scope s.heap.objs.size f cdv)) → sp vs H Q E0 →
      ∃ t, PSs1 (cxMd P w K mg base N qual scope f cdv A outer s H) body t ∧ t { nx := fun _ H' => Q .non H', rt := Q } (L2.start N vs) H) :
    FnMd P w K mg base (k + 1) f fd ps sp := by
  obtain ⟨oc, od, dV, kV, doc, pm, an, cdv, ct, osl, rfl, lk, hcd, _, _⟩ := F.ex
  exact fn_md lk hcd S len fun A outer s H vs Q hr _ hsp => hbody cdv A outer s H vs Q hr hsp
abbrev Mon (Pv : Hp → Prop) : Prop := ∀ H H', Evl.Ex H H' → Pv H → Pv H'
/-- a loop over the ends that a generator hands out -/
theorem for_ends {es : List Pt.End} {T : Hp → Prop} {g : TG} {tb : TS} {D : Ends} {σ : L2.St} {H1 : Hp} (Pv : Nat → L2.St → Hp → Prop) (hm : ∀ i σ, Mon (Pv i σ)) (hT : ∀ i σ H, Pv i σ H → T H) (h0 : Pv 0 σ H1)
    (hs : ∀ i e a σ H, es[i]? = some e → Pv i σ H → H a = some (.tup [.int e.1, .int e.2.1, .str e.2.2]) → g (.ref a) σ H fun σ2 H2 => tb { D with nx := Pv (i + 1), ct := Pv (i + 1), bk := D.nx } σ2 H2) (hd : ∀ σ H, Pv es.length σ H → D.nx σ H) :
    ∃ W : Nat → Nat → L2.St → Hp → Prop, (∃ m, W 0 m σ H1) ∧ ∀ i m σ H, W i m σ H →
      ((Jg (es.map itE) T).stop i H ∧ ∀ H', Gk.Ext H H' → D.nx σ H') ∨ ((Jg (es.map itE) T).go i H ∧ ∃ N : L2.St → Hp → Prop, (∀ σ' H', N σ' H' → (Jg (es.map itE) T).ok H' ∧ ∃ m', m' < m ∧ W (i + 1) m' σ' H') ∧ ∀ x H', (Jg (es.map itE) T).yld i H x H' → g x σ H' fun σ2 H2 => tb { D with nx := N, ct := N, bk := D.nx } σ2 H2) := by
  refine ⟨fun i m σ H => m = es.length - i ∧ i ≤ es.length ∧ Pv i σ H, ⟨es.length, by simp, Nat.zero_le _, h0⟩, ?_⟩
  rintro i m σ H ⟨rfl, hi, p⟩
  by_cases hlt : i < es.length
  · refine .inr ⟨by show i < (es.map itE).length; rw [List.length_map]; exact hlt, Pv (i + 1), fun σ' H' p' => ⟨hT _ _ _ p', es.length - (i + 1), by omega, rfl, hlt, p'⟩, fun x H' y => ?_⟩
    obtain ⟨ex, it, hit, hx⟩ := y
    rw [List.getElem?_map, List.getElem?_eq_getElem hlt] at hit
    obtain rfl := Option.some.inj hit
    obtain ⟨a, rfl, ha⟩ := hx
    exact hs i es[i] a σ H' (List.getElem?_eq_getElem hlt) (hm i σ H H' ex p) ha
  · have e : i = es.length := by omega
    subst e
    exact .inl ⟨by show es.length = (es.map itE).length; rw [List.length_map], fun H' ex => hd σ H' (hm _ σ H H' ex p)⟩
/-- a comprehension over the ends -/
theorem comp_ends {es : List Pt.End} {T : Hp → Prop} {g : TG} {tt : TT} {tem : L2.St → Hp → (Hp → Prop) → Prop} {σ : L2.St} {vs : List Nat} {Hi : Hp} {Qd : Hp → Prop} (Pv : Nat → Hp → Prop) (hm : ∀ i, Mon (Pv i)) (hT : ∀ i H, Pv i H → T H) (h0 : Pv 0 Hi)
    (hs : ∀ i e a H, es[i]? = some e → Pv i H → H a = some (.tup [.int e.1, .int e.2.1, .str e.2.2]) → g (.ref a) (wipe σ vs) H fun σ2 H2 => wipe σ2 vs = wipe σ vs ∧ tt σ2 H2 fun b H3 => if b = true then tem σ2 H3 (Pv (i + 1)) else Pv (i + 1) H3) (hd : ∀ H, Pv es.length H → Qd H) :
    ∃ W : Nat → Nat → Hp → Prop, (∃ m, W 0 m Hi) ∧ ∀ i m H, W i m H →
      ((Jg (es.map itE) T).stop i H ∧ ∀ H', Gk.Ext H H' → Qd H') ∨ ((Jg (es.map itE) T).go i H ∧ ∃ Nx : Hp → Prop, (∀ H', Nx H' → (Jg (es.map itE) T).ok H' ∧ ∃ m', m' < m ∧ W (i + 1) m' H') ∧ ∀ x H', (Jg (es.map itE) T).yld i H x H' → g x (wipe σ vs) H' fun σ2 H2 => wipe σ2 vs = wipe σ vs ∧ tt σ2 H2 fun b H3 =>
        if b = true then tem σ2 H3 Nx else Nx H3) := by
  refine ⟨fun i m H => m = es.length - i ∧ i ≤ es.length ∧ Pv i H, ⟨es.length, by simp, Nat.zero_le _, h0⟩, ?_⟩
  rintro i m H ⟨rfl, hi, p⟩
  by_cases hlt : i < es.length
  · refine .inr ⟨by show i < (es.map itE).length; rw [List.length_map]; exact hlt, Pv (i + 1), fun H' p' => ⟨hT _ _ p', es.length - (i + 1), by omega, rfl, hlt, p'⟩, fun x H' y => ?_⟩
    obtain ⟨ex, it, hit, hx⟩ := y
    rw [List.getElem?_map, List.getElem?_eq_getElem hlt] at hit
    obtain rfl := Option.some.inj hit
    obtain ⟨a, rfl, ha⟩ := hx
    exact hs i es[i] a H' (List.getElem?_eq_getElem hlt) (hm i H H' ex p) ha
  · have e : i = es.length := by omega
    subst e
    exact .inl ⟨by show es.length = (es.map itE).length; rw [List.length_map], fun H' ex => hd H' (hm _ H H' ex p)⟩
/-- loops over a list, in the marked machine -/
theorem for_list1 {K : PySem.W.Frag} {a : Addr} {xs : List V} {g : TG} {tb : TS} {D : Ends} {σ : L2.St} {H1 : Hp} (Pv : Nat → L2.St → Hp → Prop) (hm : ∀ i σ, Mon (Pv i σ)) (h0 : Pv 0 σ H1) (hl : ∀ i σ H, i ≤ xs.length → Pv i σ H → SqL K H a xs)
    (hs : ∀ i x σ H, xs[i]? = some x → Pv i σ H → g x σ H fun σ2 H2 => tb { D with nx := Pv (i + 1), ct := Pv (i + 1), bk := D.nx } σ2 H2) (hd : ∀ σ H, Pv xs.length σ H → D.nx σ H) :
    ∃ W : Nat → Nat → L2.St → Hp → Prop, (∃ m, W 0 m σ H1) ∧ ∀ i m σ H, W i m σ H →
      ((jt (Itl K a)).stop i H ∧ ∀ H', Gk.Ext H H' → D.nx σ H') ∨ ((jt (Itl K a)).go i H ∧ ∃ N : L2.St → Hp → Prop, (∀ σ' H', N σ' H' → (jt (Itl K a)).ok H' ∧ ∃ m', m' < m ∧ W (i + 1) m' σ' H') ∧ ∀ x H', (jt (Itl K a)).yld i H x H' → g x σ H' fun σ2 H2 => tb { D with nx := N, ct := N, bk := D.nx } σ2 H2) := by
  refine ⟨fun i m σ H => m = xs.length - i ∧ i ≤ xs.length ∧ Pv i σ H, ⟨xs.length, by simp, Nat.zero_le _, h0⟩, ?_⟩
  rintro i m σ H ⟨rfl, hi, p⟩
  have q := hl i σ H hi p
  by_cases hlt : i < xs.length
  · refine .inr ⟨⟨xs, xs[i], q, by simp [hlt]⟩, Pv (i + 1), fun σ' H' p' => ⟨trivial, xs.length - (i + 1), by omega, rfl, hlt, p'⟩, fun x H' y => ?_⟩
    obtain ⟨e, y⟩ := y
    subst e
    exact hs i x σ _ (y xs q) p
  · have e : i = xs.length := by omega
    subst e
    exact .inl ⟨⟨xs, q, Nat.le_refl _⟩, fun H' ex => hd σ H' (hm _ _ _ _ ex p)⟩
theorem for_range1 {n : Nat} {g : TG} {tb : TS} {D : Ends} {σ : L2.St} {H1 : Hp} (Pv : Nat → L2.St → Hp → Prop) (hm : ∀ i σ, Mon (Pv i σ)) (h0 : Pv 0 σ H1)
    (hs : ∀ i σ H, i < n → Pv i σ H → g (.int (0 + (i : Int))) σ H fun σ2 H2 => tb { D with nx := Pv (i + 1), ct := Pv (i + 1), bk := D.nx } σ2 H2) (hd : ∀ σ H, Pv n σ H → D.nx σ H) :
    ∃ W : Nat → Nat → L2.St → Hp → Prop, (∃ m, W 0 m σ H1) ∧ ∀ i m σ H, W i m σ H →
      ((jt (Itr 0 n)).stop i H ∧ ∀ H', Gk.Ext H H' → D.nx σ H') ∨ ((jt (Itr 0 n)).go i H ∧ ∃ N : L2.St → Hp → Prop, (∀ σ' H', N σ' H' → (jt (Itr 0 n)).ok H' ∧ ∃ m', m' < m ∧ W (i + 1) m' σ' H') ∧ ∀ x H', (jt (Itr 0 n)).yld i H x H' → g x σ H' fun σ2 H2 => tb { D with nx := N, ct := N, bk := D.nx } σ2 H2) := by
  refine ⟨fun i m σ H => m = n - i ∧ i ≤ n ∧ Pv i σ H, ⟨n, by simp, Nat.zero_le _, h0⟩, ?_⟩
  rintro i m σ H ⟨rfl, hi, p⟩
  by_cases hlt : i < n
  · refine .inr ⟨hlt, Pv (i + 1), fun σ' H' p' => ⟨trivial, n - (i + 1), by omega, rfl, hlt, p'⟩, fun x H' y => ?_⟩
    obtain ⟨e, y⟩ := y
    subst e y
    exact hs i σ _ hlt p
  · have e : i = n := by omega
    subst e
    exact .inl ⟨Nat.le_refl _, fun H' ex => hd σ H' (hm _ _ _ _ ex p)⟩
theorem comp_list1 {K : PySem.W.Frag} {a : Addr} {xs : List V} {g : TG} {tt : TT} {tem : L2.St → Hp → (Hp → Prop) → Prop} {σ : L2.St} {vs : List Nat} {Hi : Hp} {Qd : Hp → Prop} (Pv : Nat → Hp → Prop) (hm : ∀ i, Mon (Pv i)) (h0 : Pv 0 Hi) (hl : ∀ i H, i ≤ xs.length → Pv i H → SqL K H a xs)
    (hs : ∀ i x H, xs[i]? = some x → Pv i H → g x (wipe σ vs) H fun σ2 H2 => wipe σ2 vs = wipe σ vs ∧ tt σ2 H2 fun b H3 => if b = true then tem σ2 H3 (Pv (i + 1)) else Pv (i + 1) H3) (hd : ∀ H, Pv xs.length H → Qd H) :
    ∃ W : Nat → Nat → Hp → Prop, (∃ m, W 0 m Hi) ∧ ∀ i m H, W i m H →
      ((jt (Itl K a)).stop i H ∧ ∀ H', Gk.Ext H H' → Qd H') ∨ ((jt (Itl K a)).go i H ∧ ∃ Nx : Hp → Prop, (∀ H', Nx H' → (jt (Itl K a)).ok H' ∧ ∃ m', m' < m ∧ W (i + 1) m' H') ∧ ∀ x H', (jt (Itl K a)).yld i H x H' → g x (wipe σ vs) H' fun σ2 H2 => wipe σ2 vs = wipe σ vs ∧ tt σ2 H2 fun b H3 =>
        if b = true then tem σ2 H3 Nx else Nx H3) := by
  refine ⟨fun i m H => m = xs.length - i ∧ i ≤ xs.length ∧ Pv i H, ⟨xs.length, by simp, Nat.zero_le _, h0⟩, ?_⟩
  rintro i m H ⟨rfl, hi, p⟩
  have q := hl i H hi p
  by_cases hlt : i < xs.length
  · refine .inr ⟨⟨xs, xs[i], q, by simp [hlt]⟩, Pv (i + 1), fun H' p' => ⟨trivial, xs.length - (i + 1), by omega, rfl, hlt, p'⟩, fun x H' y => ?_⟩
    obtain ⟨e, y⟩ := y
    subst e
    exact hs i x _ (y xs q) p
  · have e : i = xs.length := by omega
    subst e
    exact .inl ⟨⟨xs, q, Nat.le_refl _⟩, fun H' ex => hd H' (hm _ _ _ ex p)⟩
theorem comp_range1 {n : Nat} {g : TG} {tt : TT} {tem : L2.St → Hp → (Hp → Prop) → Prop} {σ : L2.St} {vs : List Nat} {Hi : Hp} {Qd : Hp → Prop} (Pv : Nat → Hp → Prop) (hm : ∀ i, Mon (Pv i)) (h0 : Pv 0 Hi)
    (hs : ∀ i H, i < n → Pv i H → g (.int (0 + (i : Int))) (wipe σ vs) H fun σ2 H2 => wipe σ2 vs = wipe σ vs ∧ tt σ2 H2 fun b H3 => if b = true then tem σ2 H3 (Pv (i + 1)) else Pv (i + 1) H3) (hd : ∀ H, Pv n H → Qd H) :
    ∃ W : Nat → Nat → Hp → Prop, (∃ m, W 0 m Hi) ∧ ∀ i m H, W i m H →
      ((jt (Itr 0 n)).stop i H ∧ ∀ H', Gk.Ext H H' → Qd H') ∨ ((jt (Itr 0 n)).go i H ∧ ∃ Nx : Hp → Prop, (∀ H', Nx H' → (jt (Itr 0 n)).ok H' ∧ ∃ m', m' < m ∧ W (i + 1) m' H') ∧ ∀ x H', (jt (Itr 0 n)).yld i H x H' → g x (wipe σ vs) H' fun σ2 H2 => wipe σ2 vs = wipe σ vs ∧ tt σ2 H2 fun b H3 =>
        if b = true then tem σ2 H3 Nx else Nx H3) := by
  refine ⟨fun i m H => m = n - i ∧ i ≤ n ∧ Pv i H, ⟨n, by simp, Nat.zero_le _, h0⟩, ?_⟩
  rintro i m H ⟨rfl, hi, p⟩
  by_cases hlt : i < n
  · refine .inr ⟨hlt, Pv (i + 1), fun H' p' => ⟨trivial, n - (i + 1), by omega, rfl, hlt, p'⟩, fun x H' y => ?_⟩
    obtain ⟨e, y⟩ := y
    subst e y
    exact hs i _ hlt p
  · have e : i = n := by omega
    subst e
    exact .inl ⟨Nat.le_refl _, fun H' ex => hd H' (hm _ _ _ ex p)⟩
end Tn
/-! Shares of a tree. -/
namespace Pt
open PySem

def shareF (n : Str) : List End → Nat → Nat → Nat × Nat
  | [], a, b => (a, b)
  | e :: l, a, b => if e.2.2 = n then shareF n l ((a * e.2.1 + b) / Nat.gcd (a * e.2.1 + b) (b * e.2.1)) (b * e.2.1 / Nat.gcd (a * e.2.1 + b) (b * e.2.1)) else shareF n l a b
theorem share_ok (n : Str) (W : Nat) : ∀ (l : List End), (∀ e ∈ l, 0 < e.2.1 ∧ e.2.1 ∣ W) → ∀ (a b S : Nat), 0 < b → a * W = b * S → (shareF n l a b).1 * W = (shareF n l a b).2 * (S + parts n W l) ∧ 0 < (shareF n l a b).2
  | [], _, a, b, S, hb, h => ⟨by simpa [shareF, parts] using h, by simpa [shareF] using hb⟩
  | e :: l, hl, a, b, S, hb, h => by
    obtain ⟨h1, k, hk⟩ := hl e List.mem_cons_self
    have tl := fun e he => hl e (List.mem_cons_of_mem _ he)
    by_cases hn : e.2.2 = n
    · have hWs : W / e.2.1 = k := by rw [hk, Nat.mul_div_cancel_left _ h1]
      rw [shareF, if_pos hn, parts, if_pos hn, hWs]
      obtain ⟨f, st, s⟩ := e
      dsimp only at h1 hk hWs hn ⊢
      have hb1 : 0 < b * st := Nat.mul_pos hb h1
      have hg : 0 < Nat.gcd (a * st + b) (b * st) := Nat.gcd_pos_of_pos_right _ hb1
      obtain ⟨a2, ha⟩ := Nat.gcd_dvd_left (a * st + b) (b * st)
      obtain ⟨b2, hb2⟩ := Nat.gcd_dvd_right (a * st + b) (b * st)
      have key : (a * st + b) * W = b * st * (S + k) := by
        rw [Nat.add_mul, Nat.mul_right_comm, h, Nat.mul_add]
        have : b * W = b * st * k := by rw [hk, Nat.mul_assoc]
        rw [this, Nat.mul_right_comm]
      generalize hgd : Nat.gcd (a * st + b) (b * st) = g at hg ha hb2 ⊢
      have e1 : (a * st + b) / g = a2 := by rw [ha, Nat.mul_div_cancel_left _ hg]
      have e2 : b * st / g = b2 := by rw [hb2, Nat.mul_div_cancel_left _ hg]
      rw [e1, e2]
      have key2 : a2 * W = b2 * (S + k) := by
        rw [ha, hb2, Nat.mul_assoc, Nat.mul_assoc] at key
        exact Nat.eq_of_mul_eq_mul_left hg key
      have hb3 : 0 < b2 := by
        rcases Nat.eq_zero_or_pos b2 with z | z
        · rw [z, Nat.mul_zero] at hb2; omega
        · exact z
      have r := share_ok n W l tl a2 b2 (S + k) hb3 key2
      rw [Nat.add_assoc] at r
      exact r
    · rw [shareF, if_neg hn, parts, if_neg hn, Nat.zero_add]
      exact share_ok n W l tl a b S hb h
/-- a sequence's tally over whole periods -/
theorem tally_add (a : Nat → Str) (n : Str) (p : Nat) (hp : ∀ x, a (x + p) = a x) : ∀ x, tally a n (x + p) = tally a n x + tally a n p
  | 0 => by simp [tally]
  | x + 1 => by
    rw [show x + 1 + p = (x + p) + 1 by omega, tally, tally, tally_add a n p hp x, hp x]
    omega
theorem tally_mul (a : Nat → Str) (n : Str) (p : Nat) (hp : ∀ x, a (x + p) = a x) (x : Nat) : ∀ k, tally a n (x + p * k) = tally a n x + k * tally a n p
  | 0 => by simp
  | k + 1 => by
    rw [Nat.mul_succ, ← Nat.add_assoc, tally_add a n p hp, tally_mul a n p hp x k, Nat.succ_mul, Nat.add_assoc]
/-- the law's equation: what a window of whole periods holds of n -/
theorem share_law (t : Tr) (h : t.ok) (n : Str) (W p r x : Nat) (hW : ∀ e ∈ t.ends 0 1, e.2.1 ∣ W) (hW0 : 0 < W) (hp : ∀ x, t.own (x + p) = t.own x) (hd : p ∣ W) :
    (tally t.own n (x + p * r) - tally t.own n x) * (shareF n (t.ends 0 1) 0 1).2 = (shareF n (t.ends 0 1) 0 1).1 * p * r := by
  have hpos := ends_pos t 0 1 (by decide) h
  have hlt := ends_lt t 0 1 (by decide) h
  obtain ⟨sh, sb⟩ := share_ok n W (t.ends 0 1) (fun e he => ⟨hpos e he, hW e he⟩) 0 1 0 (by decide) (by simp)
  rw [Nat.zero_add] at sh
  generalize (shareF n (t.ends 0 1) 0 1).1 = A at sh ⊢
  generalize (shareF n (t.ends 0 1) 0 1).2 = B at sh sb ⊢
  obtain ⟨k, hk⟩ := hd
  have c1 := cnts_add n W (t.ends 0 1) (fun e he => ⟨hlt e he, hW e he⟩) 0
  rw [Nat.zero_add, cnts_zero, Nat.zero_add, cnts_tally n t h, hk] at c1
  have c2 := tally_mul t.own n p hp 0 k
  rw [Nat.zero_add] at c2
  have c3 : tally t.own n 0 = 0 := rfl
  rw [c3, Nat.zero_add] at c2
  rw [c2, ← hk] at c1
  have hk0 : 0 < k := by
    rcases Nat.eq_zero_or_pos k with z | z
    · rw [z, Nat.mul_zero] at hk; omega
    · exact z
  rw [tally_mul t.own n p hp x r, Nat.add_sub_cancel_left]
  rw [← c1, hk, ← Nat.mul_assoc, ← Nat.mul_assoc] at sh
  have e1 : A * p = B * tally t.own n p := by
    refine Nat.eq_of_mul_eq_mul_right hk0 ?_
    rw [sh, Nat.mul_right_comm]
  rw [e1, Nat.mul_comm r, Nat.mul_right_comm, Nat.mul_comm B]
end Pt
/-! owners, count, share. -/
namespace Pt
open PySem
theorem cnts_app (n : Str) : ∀ (l m : List End) (x : Nat), cnts n (l ++ m) x = cnts n l x + cnts n m x
  | [], m, x => by simp [cnts]
  | e :: l, m, x => by rw [List.cons_append, cnts, cnts, cnts_app n l m x]; omega
theorem shareF_app (n : Str) : ∀ (l m : List End) (a b : Nat), shareF n (l ++ m) a b = shareF n m (shareF n l a b).1 (shareF n l a b).2
  | [], m, a, b => rfl
  | e :: l, m, a, b => by
    rw [List.cons_append, shareF, shareF]
    split
    · exact shareF_app n l m _ _
    · exact shareF_app n l m _ _
end Pt
namespace Tn
open PySem PySem.Spec PyProof.Rows L2 Gk
abbrev sOwners : Stmt := top 12
abbrev sCount : Stmt := top 23
abbrev sShare : Stmt := top 25
abbrev nOwners : List Str := ["tree", "first", "step", "owner"]
abbrev nCount : List Str := ["tree", "owner", "items", "found", "first", "step", "other"]
abbrev nShare : List Str := ["tree", "owner", "above", "below", "first", "step", "other", "common"]
theorem scOwners : FnScope nOwners ["tree"] (defScope sOwners) := ⟨rfl, rfl, rfl, by decide +kernel, rfl, by decide +kernel, by decide +kernel⟩
theorem scCount : FnScope nCount ["tree", "owner", "items"] (defScope sCount) := ⟨rfl, rfl, rfl, by decide +kernel, rfl, by decide +kernel, by decide +kernel⟩
theorem scShare : FnScope nShare ["tree", "owner"] (defScope sShare) := ⟨rfl, rfl, rfl, by decide +kernel, rfl, by decide +kernel, by decide +kernel⟩
def spOwners : Sp := fun vs H Q _ => ∃ (v : V) (t : Pt.Tr), vs = [v] ∧ TrAt H v t ∧ t.fit 2 ∧ ∀ (p : Addr) (ss : List Str) H', H p = none → Evl.Ex H H' → H' p = some (.lst (ss.map V.str)) → ss.Nodup → (∀ k, k ∈ ss ↔ ∃ e ∈ t.ends 0 1, e.2.2 = k) → ss.length ≤ 16 → Q (.ref p) H'
def spCount : Sp := fun vs H Q _ => ∃ (v : V) (t : Pt.Tr) (n : Str) (x : Nat), vs = [v, .str n, .int x] ∧ TrAt H v t ∧ t.fit 2 ∧ ∀ H', Evl.Ex H H' → Q (.int (Pt.cnts n (t.ends 0 1) x : Nat)) H'
def spShare : Sp := fun vs H Q _ => ∃ (v : V) (t : Pt.Tr) (n : Str), vs = [v, .str n] ∧ TrAt H v t ∧ t.fit 2 ∧ ∀ (p : Addr) H', H p = none → Evl.Ex H H' → H' p = some (.tup [.int (Pt.shareF n (t.ends 0 1) 0 1).1, .int (Pt.shareF n (t.ends 0 1) 0 1).2]) → Q (.ref p) H'
section
variable {P : Program} {w : World} {K : PySem.W.Frag} {mg : Str → Option Value} {base : Heap} {f fEnds fDiv : Addr} {fd fdEnds fdDiv : FuncData}
theorem ok_owners (F : FnP K "owners" sOwners f fd) (FEnds : FnPD K "ends" sEnds [.int 0, .int 1] fEnds fdEnds) (gLen : mg "len" = none) (gIsi : mg "isinstance" = none) (gStr : mg "str" = none) (gEnum : mg "enumerate" = none) (gSorted : mg "sorted" = none) (gEnds : mg "ends" = some (.ref fEnds)) :
    FnMd P w K mg base 8 f fd ["tree"] spOwners := by
  have GEnds : GFn1 P w K mg base 7 fEnds fdEnds psEnds (spEnds 2) := ok_ends FEnds gLen gIsi gStr gEnum gEnds 2
  obtain ⟨ds, rds, bEnds⟩ := ends_b1 FEnds
  refine fn_mdD F scOwners (fun vs H Q E h => ?_) (fun cdv A outer s H vs Q hr h => ⟨_, (pss_one1 (ps_ret1 (pe_callB1 (fun _ _ z => z) (cr_sortSetS rfl) (by rfl) gSorted boot_sorted (pa_cons1 (pe_sc1 (own := [("first", 1), ("step", 2), ("owner", 3)]) (g := (gTup K 3 (gCons (gName 1) (gCons (gName 2) (gCons (gName 3) gNil))))) (tt := tYes) (fun _ _ z => z) scOwners.nd (pi_gen1 hr rfl (pgen_call1 GEnds (hr.mono (by decide)) rfl gEnds FEnds.kp bEnds rds (PA.up (fun _ _ z => z) (pa_cons (pv 0) pa_nil)))) (blkOk_by (N := nOwners) (sc := defScope sOwners) (by decide +kernel)) (by decide +kernel) (fun _ _ _ _ _ => (pg_tup rfl (pgs_cons (pg_name (i := 1) scOwners.nd rfl (Or.inl rfl)) (pgs_cons (pg_name (i := 2) scOwners.nd rfl (Or.inl rfl)) (pgs_cons (pg_name (i := 3) scOwners.nd rfl (Or.inl rfl)) pgs_nil))))) (fun _ _ _ _ _ => pts_nil) (fun _ _ _ _ _ => (PE.up (fun _ _ z => z) (pv 3)))) pa_nil1)))), ?_⟩)
  · obtain ⟨v, t, rfl, _⟩ := h
    rfl
  · obtain ⟨v, t, rfl, hT, hf, hQ⟩ := h
    refine ⟨_, rfl, _, _, ⟨v, t, 0, 1, H, rfl, rfl, ExtU.refl H, hT, hf, by decide, by decide, rfl⟩, fun D hD => ?_⟩
    have hc := Pt.ends_count t 2 0 1 hf
    refine comp_ends (fun i H' => Evl.Ex H H' ∧ ∃ ks : List Str, H' D = some (SetSO w D ks) ∧ ks.length ≤ i ∧ ∀ k, k ∈ ks ↔ ∃ e ∈ (t.ends 0 1).take i, e.2.2 = k) ?_ ?_ ?_ ?_ ?_
    · rintro i H1 H2 x ⟨x1, ks, hS, h1, h2⟩
      exact ⟨x1.trans x, ks, x _ _ hS, h1, h2⟩
    · rintro i H1 ⟨x1, _⟩
      exact .of x1
    · exact ⟨Evl.Ex.new hD, [], upd_same, Nat.le_refl _, fun k => by simp⟩
    · rintro i e a H1 he ⟨x1, ks, hS, h1, h2⟩ ha
      have hi := (List.getElem?_eq_some_iff.mp he).1
      refine ⟨a, _, rfl, Evl.st_of ha, rfl, _, _, rfl, _, _, rfl, _, _, rfl, rfl, rfl, t_yes ⟨_, rfl, e.2.2, ks, rfl, hS, ?_, ?_⟩⟩
      · exact Nat.lt_of_le_of_lt (show ks.length + 1 ≤ 100 by omega) (by decide)
      · refine ⟨x1.mut hD, _, upd_same, Nat.le_trans withK_len (by omega), fun k => ?_⟩
        rw [List.take_succ, he, withK_mem]
        simp only [h2 k, List.mem_append, Option.toList_some, List.mem_singleton]
        constructor
        · rintro (⟨e', h3, h4⟩ | rfl)
          · exact ⟨e', .inl h3, h4⟩
          · exact ⟨e, .inr rfl, rfl⟩
        · rintro ⟨e', h3 | rfl, h4⟩
          · exact .inl ⟨e', h3, h4⟩
          · exact .inr h4.symm
    · rintro H1 ⟨x1, ks, hS, h1, h2⟩
      rw [List.take_length] at h2
      refine ⟨D, ks, rfl, hS, by omega, fun p ss hp pm nd => hQ p ss _ (Evl.fresh_back x1 hp) (x1.trans (Evl.Ex.new hp)) upd_same nd (fun k => by rw [pm.mem_iff, h2 k]) (by rw [pm.length_eq]; omega)⟩
theorem ok_count (F : FnP K "count" sCount f fd) (FEnds : FnPD K "ends" sEnds [.int 0, .int 1] fEnds fdEnds) (gLen : mg "len" = none) (gIsi : mg "isinstance" = none) (gStr : mg "str" = none) (gEnum : mg "enumerate" = none) (gEnds : mg "ends" = some (.ref fEnds)) :
    FnMd P w K mg base 8 f fd ["tree", "owner", "items"] spCount := by
  have GEnds : GFn1 P w K mg base 7 fEnds fdEnds psEnds (spEnds 2) := ok_ends FEnds gLen gIsi gStr gEnum gEnds 2
  obtain ⟨ds, rds, bEnds⟩ := ends_b1 FEnds
  refine fn_mdD F scCount (fun vs H Q E h => ?_) (fun cdv A outer s H vs Q hr h => ⟨_, (pss_cons1 (PS.up (fun _ _ z => z) (ps_set (i := 3) scCount.nd rfl (Or.inl rfl) pe_int))
        (pss_cons1 (ps_for1 (fun _ _ z => z) (pi_gen1 hr rfl (pgen_call1 GEnds (hr.mono (by decide)) rfl gEnds FEnds.kp bEnds rds (PA.up (fun _ _ z => z) (pa_cons (pv 0) pa_nil)))) (pg_tup rfl (pgs_cons (pg_name (i := 4) scCount.nd rfl (Or.inl rfl)) (pgs_cons (pg_name (i := 5) scCount.nd rfl (Or.inl rfl)) (pgs_cons (pg_name (i := 6) scCount.nd rfl (Or.inl rfl)) pgs_nil))))
        (PSs.up (fun _ _ z => z) (pss_one (ps_if (PW.pt (pw_and (pt_cmpR op_eq (pv 6) (pv 1) (nomark _)) (pw_and1 (pt_cmpR op_gt (pv 2) (pv 4) (nomark _)))))
        (pss_one (ps_aug (i := 3) scCount.nd rfl (Or.inl rfl) (pe_op op_add (pe_op op_fdiv (pe_op op_sub (pe_op op_sub (pv 2) (pv 4)) pe_int) (pv 5)) pe_int) ip_add))
        pss_nil))))
        (pss_one1 (ps_ret1 (PE.up (fun _ _ z => z) (pv 3)))))), ?_⟩)
  · obtain ⟨v, t, n, x, rfl, _⟩ := h
    rfl
  · obtain ⟨v, t, n, x, rfl, hT, hf, hQ⟩ := h
    refine ⟨_, rfl, _, _, ⟨v, t, 0, 1, H, rfl, rfl, ExtU.refl H, hT, hf, by decide, by decide, rfl⟩, ?_⟩
    refine for_ends (fun i σ H' => Evl.Ex H H' ∧ ∃ c1 c2 c3 : Option V, σ = [some v, some (.str n), some (.int x), some (.int (Pt.cnts n ((t.ends 0 1).take i) x : Nat)), c1, c2, c3]) ?_ ?_ ?_ ?_ ?_
    · rintro i σ H1 H2 xx ⟨x1, h⟩
      exact ⟨x1.trans xx, h⟩
    · rintro i σ H1 ⟨x1, _⟩
      exact .of x1
    · exact ⟨Evl.Ex.refl H, none, none, none, rfl⟩
    · rintro i e a σ H1 he ⟨x1, c1, c2, c3, rfl⟩ ha
      have hm := List.mem_of_getElem? he
      have hle := Pt.ends_le t 2 0 1 hf e hm
      have hpos := Pt.ends_pos t 0 1 (by decide) hf.ok e hm
      have fin : ∀ k : Nat, k = Pt.cnts n ((t.ends 0 1).take i) x + Pt.cntE n e x → k = Pt.cnts n ((t.ends 0 1).take (i + 1)) x := fun k hk => by
        rw [hk, List.take_succ, he, Pt.cnts_app]
        show _ = _ + (Pt.cntE n e x + 0)
        omega
      refine ⟨a, _, rfl, Evl.st_of ha, rfl, _, _, rfl, _, _, rfl, _, _, rfl, rfl, ?_⟩
      refine ⟨_, rfl, _, rfl, rfl, _, rfl, ite2 (fun h1 => ?_) fun h1 => iteF ?_⟩
      · have h1' : e.2.2 = n := by
          have := of_decide_eq_true h1
          injection this
        refine ⟨_, rfl, _, rfl, _, _, rfl, rfl, _, rfl, ite2 (fun h2 => ?_) fun h2 => ?_⟩
        · have h2' : e.1 < x := by
            have := of_decide_eq_true h2
            omega
          refine ⟨_, rfl, _, rfl, _, rfl, _, _, rfl, rfl, _, _, rfl, rfl, _, rfl, _, _, rfl, rfl, ⟨?_, ?_⟩, _, _, rfl, rfl, _, _, rfl, rfl, ?_⟩
          · show (0 : Int) < (e.2.1 : Int); omega
          · show (e.2.1 : Int) < 1073741824; omega
          refine ⟨x1, some (.int e.1), some (.int e.2.1), some (.str e.2.2), ?_⟩
          have e1 : ((x : Int) - (e.1 : Int) - 1) / (e.2.1 : Int) + 1 = (((x - e.1 - 1) / e.2.1 + 1 : Nat) : Int) := by
            rw [show (x : Int) - (e.1 : Int) - 1 = ((x - e.1 - 1 : Nat) : Int) by omega]
            rfl
          have e2 := fin (Pt.cnts n ((t.ends 0 1).take i) x + ((x - e.1 - 1) / e.2.1 + 1)) (by unfold Pt.cntE; rw [if_pos ⟨h1', h2'⟩])
          rw [← e2]
          show [some v, some (V.str n), some (V.int x), some (V.int (((Pt.cnts n ((t.ends 0 1).take i) x : Nat) : Int) + (((x : Int) - (e.1 : Int) - 1) / (e.2.1 : Int) + 1))), some (V.int e.1), some (V.int e.2.1), some (V.str e.2.2)] = _
          rw [e1]
          rfl
        · refine ⟨x1, some (.int e.1), some (.int e.2.1), some (.str e.2.2), ?_⟩
          rw [← fin (Pt.cnts n ((t.ends 0 1).take i) x) (by
            unfold Pt.cntE
            rw [if_neg (fun z => h2 (decide_eq_true (by have := z.2; show (e.1 : Int) < (x : Int); omega)))]; rfl)]
          rfl
      · refine ⟨x1, some (.int e.1), some (.int e.2.1), some (.str e.2.2), ?_⟩
        rw [← fin (Pt.cnts n ((t.ends 0 1).take i) x) (by
          unfold Pt.cntE
          rw [if_neg (fun z => h1 (decide_eq_true (congrArg V.str z.1)))]; rfl)]
        rfl
    · rintro σ H1 ⟨x1, c1, c2, c3, rfl⟩
      rw [List.take_length]
      exact ⟨_, rfl, hQ H1 x1⟩
theorem ok_share (F : FnP K "share" sShare f fd) (FEnds : FnPD K "ends" sEnds [.int 0, .int 1] fEnds fdEnds) (FDiv : FnP K "divisor" sDiv fDiv fdDiv) (gLen : mg "len" = none) (gIsi : mg "isinstance" = none) (gStr : mg "str" = none) (gEnum : mg "enumerate" = none) (gEnds : mg "ends" = some (.ref fEnds)) (gDiv : mg "divisor" = some (.ref fDiv)) :
    FnMd P w K mg base 8 f fd ["tree", "owner"] spShare := by
  have GEnds : GFn1 P w K mg base 7 fEnds fdEnds psEnds (spEnds 2) := ok_ends FEnds gLen gIsi gStr gEnum gEnds 2
  obtain ⟨ds, rds, bEnds⟩ := ends_b1 FEnds
  have GDiv : FnOk P w K mg base CX0 1 fDiv fdDiv ["one", "other"] spDiv := ok_div FDiv
  have bDiv : L2.Binds K fdDiv ["one", "other"] [] := FDiv.bindsN fun _ _ _ _ _ _ us hl => match us, hl with | [_, _], _ => rfl
  refine fn_mdD F scShare (fun vs H Q E h => ?_) (fun cdv A outer s H vs Q hr h => ⟨_, (pss_cons1 (PS.up (fun _ _ z => z) (ps_asg (pe_tup (pa_cons pe_int (pa_cons pe_int pa_nil))) (pg_tup rfl (pgs_cons (pg_name (i := 2) scShare.nd rfl (Or.inl rfl)) (pgs_cons (pg_name (i := 3) scShare.nd rfl (Or.inl rfl)) pgs_nil)))))
        (pss_cons1 (ps_for1 (fun _ _ z => z) (pi_gen1 hr rfl (pgen_call1 GEnds (hr.mono (by decide)) rfl gEnds FEnds.kp bEnds rds (PA.up (fun _ _ z => z) (pa_cons (pv 0) pa_nil)))) (pg_tup rfl (pgs_cons (pg_name (i := 4) scShare.nd rfl (Or.inl rfl)) (pgs_cons (pg_name (i := 5) scShare.nd rfl (Or.inl rfl)) (pgs_cons (pg_name (i := 6) scShare.nd rfl (Or.inl rfl)) pgs_nil))))
        (PSs.up (fun _ _ z => z) (pss_one (ps_if (pt_cmpR op_eq (pv 6) (pv 1) (nomark _))
        (pss_cons (ps_par (i := 2) (j := 3) rfl scShare.nd rfl rfl (by decide) rfl rfl (pa_cons (pe_op op_add (pe_op op_mul (pv 2) (pv 5)) (pv 3)) (pa_cons (pe_op op_mul (pv 3) (pv 5)) pa_nil)) (by rfl))
        (pss_cons (ps_set (i := 7) scShare.nd rfl (Or.inl rfl) (pe_call GDiv (hr.mono (by decide)) rfl gDiv FDiv.kp bDiv .nil pass0 (pa_cons (pv 2) (pa_cons (pv 3) pa_nil))))
        (pss_one (ps_par (i := 2) (j := 3) rfl scShare.nd rfl rfl (by decide) rfl rfl (pa_cons (pe_op op_fdivW (pv 2) (pv 7)) (pa_cons (pe_op op_fdivW (pv 3) (pv 7)) pa_nil)) (by rfl)))))
        pss_nil))))
        (pss_one1 (ps_ret1 (PE.up (fun _ _ z => z) (pe_tup (pa_cons (pv 2) (pa_cons (pv 3) pa_nil)))))))), ?_⟩)
  · obtain ⟨v, t, n, rfl, _⟩ := h
    rfl
  · obtain ⟨v, t, n, rfl, hT, hf, hQ⟩ := h
    refine ⟨by show 2 ≤ sizeLine; decide, fun p0 hp0 => ⟨p0, _, rfl, Evl.st_of upd_same, rfl, _, _, rfl, _, _, rfl, rfl, ?_⟩⟩
    have x0 : Evl.Ex H (upd H p0 (.tup [.int 0, .int 1])) := Evl.Ex.new hp0
    refine ⟨_, rfl, _, _, ⟨v, t, 0, 1, _, rfl, rfl, ExtU.refl _, TrAt.up (.of x0) _ _ hT, hf, by decide, by decide, rfl⟩, ?_⟩
    have hc := Pt.ends_count t 2 0 1 hf
    refine for_ends (fun i σ H' => Evl.Ex (upd H p0 (.tup [.int 0, .int 1])) H' ∧ 0 < (Pt.shareF n ((t.ends 0 1).take i) 0 1).2 ∧ (Pt.shareF n ((t.ends 0 1).take i) 0 1).2 ≤ 16 ^ i ∧ ∃ c1 c2 c3 c4 : Option V, σ = [some v, some (.str n), some (.int (Pt.shareF n ((t.ends 0 1).take i) 0 1).1), some (.int (Pt.shareF n ((t.ends 0 1).take i) 0 1).2), c1, c2, c3, c4]) ?_ ?_ ?_ ?_ ?_
    · rintro i σ H1 H2 xx ⟨x1, h⟩
      exact ⟨x1.trans xx, h⟩
    · rintro i σ H1 ⟨x1, _⟩
      exact .of x1
    · exact ⟨Evl.Ex.refl _, Nat.one_pos, Nat.le_refl _, none, none, none, none, rfl⟩
    · rintro i e a σ H1 he ⟨x1, hb0, hb1, c1, c2, c3, c4, rfl⟩ ha
      have hi := (List.getElem?_eq_some_iff.mp he).1
      have hm := List.mem_of_getElem? he
      have hle := Pt.ends_le t 2 0 1 hf e hm
      have hpos := Pt.ends_pos t 0 1 (by decide) hf.ok e hm
      have snoc : Pt.shareF n ((t.ends 0 1).take (i + 1)) 0 1 = Pt.shareF n [e] (Pt.shareF n ((t.ends 0 1).take i) 0 1).1 (Pt.shareF n ((t.ends 0 1).take i) 0 1).2 := by
        rw [List.take_succ, he, Pt.shareF_app]
        rfl
      generalize hr1 : Pt.shareF n ((t.ends 0 1).take i) 0 1 = r at hb0 hb1 snoc ⊢
      generalize Pt.shareF n ((t.ends 0 1).take (i + 1)) 0 1 = r' at snoc ⊢
      obtain ⟨ra, rb⟩ := r
      dsimp only at hb0 hb1 snoc ⊢
      refine ⟨a, _, rfl, Evl.st_of ha, rfl, _, _, rfl, _, _, rfl, _, _, rfl, rfl, ?_⟩
      refine ⟨_, rfl, _, rfl, rfl, _, rfl, ite2 (fun h1 => ?_) fun h1 => ?_⟩
      · have h1' : e.2.2 = n := by
          have := of_decide_eq_true h1
          injection this
        have hbs : 0 < rb * e.2.1 := Nat.mul_pos hb0 hpos
        have hg0 : 0 < Nat.gcd (ra * e.2.1 + rb) (rb * e.2.1) := Nat.gcd_pos_of_pos_right _ hbs
        have hgle : Nat.gcd (ra * e.2.1 + rb) (rb * e.2.1) ≤ rb * e.2.1 := Nat.le_of_dvd hbs (Nat.gcd_dvd_right _ _)
        have e16 : rb * e.2.1 ≤ 16 ^ i * 16 := Nat.mul_le_mul hb1 hle
        have e17 : 16 ^ i * 16 ≤ 16 ^ 17 := by
          rw [← Nat.pow_succ]
          exact Nat.pow_le_pow_right (by decide) (by omega)
        have snoc' : r' = ((ra * e.2.1 + rb) / Nat.gcd (ra * e.2.1 + rb) (rb * e.2.1), rb * e.2.1 / Nat.gcd (ra * e.2.1 + rb) (rb * e.2.1)) := by
          rw [snoc, Pt.shareF, if_pos h1', Pt.shareF]
        rw [snoc']
        dsimp only
        refine ⟨_, rfl, _, rfl, _, _, rfl, rfl, .inr ⟨?_, ?_⟩, _, rfl, _, _, rfl, rfl, _, rfl, _, rfl, _, _, rfl, rfl, .inr ⟨?_, ?_⟩, _, _, rfl, ?_⟩
        · show -(2 ^ 64 : Int) < (e.2.1 : Int); omega
        · show (e.2.1 : Int) < 2 ^ 64; omega
        · show -(2 ^ 64 : Int) < (e.2.1 : Int); omega
        · show (e.2.1 : Int) < 2 ^ 64; omega
        refine ⟨_, rfl, _, rfl, ra * e.2.1 + rb, rb * e.2.1, rfl, ?_⟩
        rw [Nat.gcd_comm (rb * e.2.1)]
        refine ⟨_, rfl, _, rfl, _, _, rfl, rfl, wide_div (b := 100) ?_ ?_ (by decide) (by decide), _, rfl, _, rfl, _, _, rfl, rfl, wide_div (b := 100) ?_ ?_ (by decide) (by decide), _, _, rfl, ?_⟩
        · show (0 : Int) < ((_ : Nat) : Int); omega
        · show ((_ : Nat) : Int).natAbs < 2 ^ 100; omega
        · show (0 : Int) < ((_ : Nat) : Int); omega
        · show ((_ : Nat) : Int).natAbs < 2 ^ 100; omega
        refine ⟨x1, Nat.div_pos hgle hg0, ?_, some (.int e.1), some (.int e.2.1), some (.str e.2.2), some (.int (Nat.gcd (ra * e.2.1 + rb) (rb * e.2.1) : Nat)), rfl⟩
        rw [Nat.pow_succ]
        exact Nat.le_trans (Nat.div_le_self _ _) e16
      · have snoc' : r' = (ra, rb) := by
          rw [snoc, Pt.shareF, if_neg (fun z => h1 (decide_eq_true (congrArg V.str z))), Pt.shareF]
        rw [snoc']
        refine ⟨x1, hb0, Nat.le_trans hb1 (by rw [Nat.pow_succ]; exact Nat.le_mul_of_pos_right _ (by decide)), some (.int e.1), some (.int e.2.1), some (.str e.2.2), c4, rfl⟩
    · rintro σ H1 ⟨x1, _, _, c1, c2, c3, c4, rfl⟩
      rw [List.take_length]
      exact ⟨_, rfl, _, rfl, by show 2 ≤ sizeLine; decide, fun p hp => hQ p _ (Evl.fresh_back (x0.trans x1) hp) ((x0.trans x1).trans (Evl.Ex.new hp)) upd_same⟩
end
end Tn
/-! owner_of, taken. -/
namespace Pt
open PySem
theorem takeAt_at : ∀ (ts : List Tr) (i f st : Nat) (t : Tr), ts[i]? = some t → takeAt ts i f st = t.take f st
  | [], i, f, st, t, h => by simp at h
  | a :: ts, 0, f, st, t, h => by
    have := Option.some.inj h
    subst this
    rw [takeAt]
  | a :: ts, i + 1, f, st, t, h => by rw [takeAt]; exact takeAt_at ts i f st t h
theorem fitL_of : ∀ (l : List Tr) (d : Nat), (∀ t ∈ l, t.fit d) → fitL l d
  | [], _, _ => by rw [fitL]; trivial
  | t :: l, d, h => by
    rw [fitL]
    exact ⟨h t List.mem_cons_self, fitL_of l d fun u hu => h u (List.mem_cons_of_mem _ hu)⟩
mutual
theorem take_fit : ∀ (t : Tr) (d f st : Nat), t.fit d → (t.take f st).fit d
  | .lf s, d, f, st, h => by rw [Tr.take]; exact h
  | .nd ts, 0, _, _, h => by rw [Tr.fit] at h; exact h.elim
  | .nd ts, d + 1, f, st, h => by
    have h0 := h
    rw [Tr.fit] at h
    have hm : 0 < ts.length := by omega
    have hg0 : 0 < Nat.gcd ts.length st := Nat.gcd_pos_of_pos_left _ hm
    have hc0 : 0 < ts.length / Nat.gcd ts.length st := Nat.div_pos (Nat.le_of_dvd hm (Nat.gcd_dvd_left _ _)) hg0
    have hle : ts.length / Nat.gcd ts.length st ≤ ts.length := Nat.div_le_self _ _
    have at_ := takeAt_fit ts
    rw [Tr.take]
    split
    · exact Tr.fit.up _ _ (at_ d _ _ _ h.2.2 (Nat.mod_lt _ hm))
    · rename_i hne
      rw [Tr.fit, List.length_map, List.length_range]
      refine ⟨by omega, by omega, fitL_of _ d fun t ht => ?_⟩
      obtain ⟨k, _, e⟩ := List.mem_map.mp ht
      rw [← e]
      exact at_ d _ _ _ h.2.2 (Nat.mod_lt _ hm)
theorem takeAt_fit : ∀ (ts : List Tr) (d i f st : Nat), fitL ts d → i < ts.length → (takeAt ts i f st).fit d
  | [], d, i, _, _, _, h => by simp at h
  | t :: ts, d, 0, f, st, h, _ => by
    rw [fitL] at h
    rw [takeAt]; exact take_fit t d f st h.1
  | t :: ts, d, i + 1, f, st, h, hi => by
    rw [fitL] at h
    rw [takeAt]; exact takeAt_fit ts d i f st h.2 (by simpa using hi)
end
end Pt
namespace Tn
open PySem PySem.Spec PyProof.Rows L2
abbrev sOwn : Stmt := top 13
abbrev sTak : Stmt := top 15
abbrev nTak : List Str := ["tree", "first", "step", "size", "common", "found", "number", "item"]
abbrev psTak : List Str := ["tree", "first", "step"]
theorem scOwn : FnScope ["tree", "item", "number"] ["tree", "item"] (defScope sOwn) := ⟨rfl, rfl, rfl, by decide +kernel, rfl, by decide +kernel, by decide +kernel⟩
theorem scTak : FnScope nTak psTak (defScope sTak) := ⟨rfl, rfl, rfl, by decide +kernel, rfl, by decide +kernel, by decide +kernel⟩
def spOwn : Sp := fun vs H Q _ => ∃ (v : V) (t : Pt.Tr) (d j : Nat), vs = [v, .int j] ∧ TrAt H v t ∧ t.fit d ∧ Q (.str (t.own j)) H
def spTak (d : Nat) : Sp := fun vs H Q _ => ∃ (v : V) (t : Pt.Tr) (fi st : Nat), vs = [v, .int fi, .int st] ∧ TrAt H v t ∧ t.fit d ∧ st ≤ 1000000 ∧ ∀ v' H', Evl.Ex H H' → TrAt H' v' (t.take fi st) → Q v' H'
section
variable {P : Program} {w : World} {K : PySem.W.Frag} {mg : Str → Option Value} {base : Heap} {f fDiv : Addr} {fd fdDiv : FuncData}
theorem ok_own (F : FnP K "owner_of" sOwn f fd) (gLen : mg "len" = none) (gIsi : mg "isinstance" = none) (gStr : mg "str" = none) : FnOk P w K mg base CX0 1 f fd ["tree", "item"] spOwn := by
  refine F.ok scOwn (fun vs H Q E h => ?_) (fun cdv A outer s H vs Q E hr h => ⟨_, PSs.nox (pss_cons (ps_while ownx (pt_not (pt_val (pe_callB call_isi (by rfl) gIsi boot_isinstance (pa_cons (pv 0) (pa_cons (pe_bltn (v := .ty "str") (by rfl) gStr (by decide +kernel) rfl) pa_nil)))))
        (pss_cons (ps_par (i := 1) (j := 2) rfl scOwn.nd rfl rfl (by decide) rfl rfl (pa_cons (pe_op op_fdiv (pv 1) (pe_callB call_len (by rfl) gLen boot_len (pa_cons (pv 0) pa_nil))) (pa_cons (pe_op op_mod (pv 1) (pe_callB call_len (by rfl) gLen boot_len (pa_cons (pv 0) pa_nil))) pa_nil)) (by rfl))
        (pss_one (ps_set (i := 0) scOwn.nd rfl (Or.inl rfl) (pe_ix ix_tup (pv 0) (pv 2) fun _ _ => rfl)))))
        (pss_one (ps_ret (pv 0)))), ?_⟩)
  · obtain ⟨v, t, d, j, rfl, _⟩ := h
    rfl
  · obtain ⟨v, t, d, j, rfl, hT, hf, hQ⟩ := h
    refine ⟨fun m σ H' => H' = H ∧ ∃ (v' : V) (t' : Pt.Tr) (j' : Nat) (c : Option V), σ = [some v', some (.int j'), c] ∧ TrAt H v' t' ∧ t'.fit m ∧ t'.own j' = t.own j, ⟨d, rfl, v, t, j, none, rfl, hT, hf, rfl⟩, ?_⟩
    rintro m σ H' ⟨rfl, v', t', j', c, rfl, hT', hf', he⟩
    cases t' with
    | lf s =>
      have e := hT'.lf
      subst e
      refine ⟨_, rfl, _, _, _, _, true, rfl, .ty _, .base (.str s), kit_ty (by decide +kernel), _, rfl, iteF ⟨_, rfl, ?_⟩⟩
      rw [Pt.Tr.own] at he
      rw [he]; exact hQ
    | nd ts =>
      obtain ⟨a, vs, rfl, ha, hl⟩ := hT'.nd
      have hlen := TrAtL.len _ _ hl
      cases m with
      | zero => rw [Pt.Tr.fit] at hf'; exact hf'.elim
      | succ m =>
      rw [Pt.Tr.fit] at hf'
      obtain ⟨h2, h4, hfl⟩ := hf'
      have hm : 0 < ts.length := by omega
      refine ⟨_, rfl, _, _, _, _, false, rfl, .ty _, .base (.tup ha), kit_ty (by decide +kernel), _, rfl, iteT ?_⟩
      refine ⟨_, fun σ' H2 q => ⟨m, Nat.lt_succ_self m, q⟩, ?_⟩
      have hjm : j' % ts.length < ts.length := Nat.mod_lt _ hm
      obtain ⟨u, hu, hTu⟩ := TrAtL.get _ _ (j' % ts.length) ts[j' % ts.length] hl (List.getElem?_eq_getElem (Nat.mod_lt _ hm))
      refine ⟨_, rfl, _, rfl, .ref a, _, rfl, .inr ⟨vs, Evl.st_of ha, rfl⟩, _, _, rfl, rfl, ⟨?_, ?_⟩, _, rfl, _, rfl, .ref a, _, rfl, .inr ⟨vs, Evl.st_of ha, rfl⟩, _, _, rfl, rfl, ?_, _, _, rfl, ?_⟩
      · show (0 : Int) < (vs.length : Int); omega
      · show (vs.length : Int) < 1073741824; omega
      · show (0 : Int) < (vs.length : Int); omega
      refine ⟨_, rfl, _, rfl, a, vs, _, u, rfl, rfl, Evl.st_of ha, ?_, rfl, u, ts[j' % ts.length], j' / ts.length, some (.int (j' % ts.length : Nat)), ?_, hTu, Pt.fitL_get _ _ _ _ hfl (List.getElem?_eq_getElem (Nat.mod_lt _ hm)), ?_⟩
      · show atI vs ((j' : Int) % (vs.length : Int)) = some u
        rw [hlen]
        exact atI_nat hu
      · rw [hlen]; rfl
      · rw [← he, Pt.Tr.own, Pt.ownL_at _ _ _ _ (List.getElem?_eq_getElem (Nat.mod_lt _ hm))]
theorem tak_step (F : FnP K "taken" sTak f fd) (FDiv : FnP K "divisor" sDiv fDiv fdDiv) (gLen : mg "len" = none) (gRange : mg "range" = none) (gTuple : mg "tuple" = none) (gIsi : mg "isinstance" = none) (gStr : mg "str" = none) (gDiv : mg "divisor" = some (.ref fDiv)) (gRec : mg "taken" = some (.ref f))
    (d k : Nat) (hk : 1 ≤ k) (spR : Sp) (GRec : FnOk P w K mg base CX0 k f fd psTak spR) (hR : ∀ d', d = d' + 1 → spR = spTak d') : FnOk P w K mg base CX0 (k + 1) f fd psTak (spTak d) := by
  have FRec := F
  have bRec : Binds K fd psTak [] := F.bindsN fun _ _ _ _ _ _ us hl => match us, hl with | [_, _, _], _ => rfl
  have GDiv : FnOk P w K mg base CX0 1 fDiv fdDiv ["one", "other"] spDiv := ok_div FDiv
  have bDiv : Binds K fdDiv ["one", "other"] [] := FDiv.bindsN fun _ _ _ _ _ _ us hl => match us, hl with | [_, _], _ => rfl
  refine F.ok scTak (fun vs H Q E h => ?_) (fun cdv A outer s H vs Q E hr h => ⟨_, PSs.nox (pss_cons (ps_if (pt_val (pe_callB call_isi (by rfl) gIsi boot_isinstance (pa_cons (pv 0) (pa_cons (pe_bltn (v := .ty "str") (by rfl) gStr (by decide +kernel) rfl) pa_nil))))
        (pss_one (ps_ret (pv 0)))
        pss_nil)
        (pss_cons (ps_set (i := 3) scTak.nd rfl (Or.inl rfl) (pe_callB call_len (by rfl) gLen boot_len (pa_cons (pv 0) pa_nil)))
        (pss_cons (ps_set (i := 4) scTak.nd rfl (Or.inl rfl) (pe_call GDiv (hr.mono (by omega)) rfl gDiv FDiv.kp bDiv .nil pass0 (pa_cons (pv 3) (pa_cons (pv 2) pa_nil))))
        (pss_cons (ps_set (i := 5) scTak.nd rfl (Or.inl rfl) (pe_lst pa_nil))
        (pss_cons (ps_for ownx rfl (pi_range1 rfl gRange (pa_cons (pe_op op_fdiv (pv 3) (pv 4)) pa_nil)) (pg_name (i := 6) scTak.nd rfl (Or.inl rfl))
        (pss_cons (ps_set (i := 7) scTak.nd rfl (Or.inl rfl) (pe_op op_add (pv 1) (pe_op op_mul (pv 2) (pv 6))))
        (pss_one (ps_expr (pe_bm PySem.F.plainAttrs_list PySem.F.slot_list_append PySem.F.type_list_append mt_append (pv 5) (pa_cons (pe_call GRec hr rfl gRec FRec.kp bRec .nil pass0 (pa_cons (pe_ix ix_tup (pv 0) (pe_op op_mod (pv 7) (pv 3)) fun _ _ => rfl) (pa_cons (pe_op op_fdiv (pv 7) (pv 3)) (pa_cons (pe_op op_fdiv (pv 2) (pv 4)) pa_nil)))) pa_nil))))))
        (pss_one (ps_ret (pe_ifExp (pt_cmpR op_eq (pe_callB call_len (by rfl) gLen boot_len (pa_cons (pv 5) pa_nil)) pe_int (nomark _)) (pe_ix ix_list (pv 5) pe_int fun _ _ => rfl) (pe_callTy call_tuple_of (by rfl) gTuple (by decide +kernel) (pa_cons (pv 5) pa_nil)))))))))), ?_⟩)
  · obtain ⟨v, t, fi, st, rfl, _⟩ := h
    rfl
  · obtain ⟨v, t, fi, st, rfl, hT, hf, hst, hQ⟩ := h
    cases t with
    | lf s =>
      have e := hT.lf
      subst e
      refine ⟨_, rfl, _, _, _, _, true, rfl, .ty _, .base (.str s), kit_ty (by decide +kernel), _, rfl, iteT ⟨_, rfl, hQ _ _ (Evl.Ex.refl H) ?_⟩⟩
      rw [Pt.Tr.take]; exact TrAt.mk
    | nd ts =>
      obtain ⟨a, vs, rfl, ha, hl⟩ := hT.nd
      have hlen := TrAtL.len _ _ hl
      cases d with
      | zero => rw [Pt.Tr.fit] at hf; exact hf.elim
      | succ d' =>
      have eR := hR d' rfl
      subst eR
      rw [Pt.Tr.fit] at hf
      obtain ⟨h2, h4, hfl⟩ := hf
      have hm : 0 < ts.length := by omega
      have hg0 : 0 < Nat.gcd ts.length st := Nat.gcd_pos_of_pos_left _ hm
      have hgle : Nat.gcd ts.length st ≤ ts.length := Nat.gcd_le_left _ hm
      have hc0 : 0 < ts.length / Nat.gcd ts.length st := Nat.div_pos hgle hg0
      have hcle : ts.length / Nat.gcd ts.length st ≤ ts.length := Nat.div_le_self _ _
      refine ⟨_, rfl, _, _, _, _, false, rfl, .ty _, .base (.tup ha), kit_ty (by decide +kernel), _, rfl, iteF ?_⟩
      refine ⟨_, rfl, .ref a, _, rfl, .inr ⟨vs, Evl.st_of ha, rfl⟩, _, rfl, _, rfl, ts.length, st, by rw [hlen]; rfl, ?_⟩
      rw [Nat.gcd_comm st, hlen]
      refine ⟨by show 0 ≤ sizeLine; decide, fun q hq => ?_⟩
      have ha0 : (upd H q (.lst [])) a = some (.tup vs) := by rw [upd_ne (ne_of_none ha hq)]; exact ha
      refine ⟨_, rfl, _, rfl, _, _, rfl, rfl, ⟨?_, ?_⟩, ((ts.length / Nat.gcd ts.length st : Nat) : Int), rfl, by omega, by omega, ?_⟩
      · show (0 : Int) < ((_ : Nat) : Int); omega
      · show ((_ : Nat) : Int) < 1073741824; omega
      refine for_range (lo := 0) (n := ts.length / Nat.gcd ts.length st) (fun i σ H' => Evl.Ex H H' ∧ ∃ (ws : List V) (c1 c2 : Option V), H' q = some (.lst ws) ∧ TrAtL H' ws ((List.range i).map fun k => Pt.takeAt ts ((fi + st * k) % ts.length) ((fi + st * k) / ts.length) (st / Nat.gcd ts.length st)) ∧
        σ = [some (.ref a), some (.int fi), some (.int st), some (.int ts.length), some (.int (Nat.gcd ts.length st : Nat)), some (.ref q), c1, c2]) ⟨Evl.Ex.new hq, [], none, none, upd_same, by rw [List.range_zero]; show TrAtL _ [] []; rw [TrAtL], rfl⟩ ?_ ?_
      · rintro i σ H' hi ⟨hx, ws, c1, c2, hws, hW, rfl⟩
        have ha' := hx a _ ha
        have ei : (fi : Int) + (st : Int) * (0 + (i : Int)) = ((fi + st * i : Nat) : Int) := by rw [Int.zero_add]; rfl
        have hr' : (fi + st * i) % ts.length < ts.length := Nat.mod_lt _ hm
        obtain ⟨u, hu, hTu⟩ := TrAtL.get _ _ ((fi + st * i) % ts.length) ts[(fi + st * i) % ts.length] hl (List.getElem?_eq_getElem hr')
        have wl := hW.len
        rw [List.length_map, List.length_range] at wl
        refine ⟨_, rfl, _, rfl, _, rfl, _, _, rfl, rfl, .inl ⟨?_, ?_⟩, _, _, rfl, rfl, ?_⟩
        · show -(2 ^ 64 : Int) < (st : Int); omega
        · show (st : Int) < 2 ^ 64; omega
        dsimp only
        rw [ei]
        refine ⟨_, rfl, .inl ⟨rfl, _, Evl.sq_of hws⟩, _, rfl, _, rfl, _, rfl, _, _, rfl, rfl, ?_, a, vs, _, u, rfl, rfl, Evl.st_of ha', atI_nat hu, ?_⟩
        · show (0 : Int) < (ts.length : Int); omega
        refine ⟨_, rfl, _, rfl, _, _, rfl, rfl, ⟨?_, ?_⟩, _, rfl, _, rfl, _, _, rfl, rfl, ⟨?_, ?_⟩, u, ts[(fi + st * i) % ts.length], (fi + st * i) / ts.length, st / Nat.gcd ts.length st, rfl, TrAt.up (.of hx) _ _ hTu, Pt.fitL_get _ _ _ _ hfl (List.getElem?_eq_getElem hr'), Nat.le_trans (Nat.div_le_self _ _) hst, fun v' H2 x2 hT2 => ?_⟩
        · show (0 : Int) < (ts.length : Int); omega
        · show (ts.length : Int) < 1073741824; omega
        · show (0 : Int) < ((_ : Nat) : Int); omega
        · show ((_ : Nat) : Int) < 1073741824; omega
        refine ⟨q, ws, v', rfl, rfl, x2 q _ hws, Evl.sz_lt (by omega), (hx.trans x2).mut hq, ws ++ [v'], some (.int (0 + (i : Int))), some (.int ((fi + st * i : Nat) : Int)), upd_same, ?_, rfl⟩
        rw [List.range_succ, List.map_append]
        refine TrAtL.up (ExtU.lst (x2 q _ hws)) _ _ (TrAtL.app _ _ _ _ (TrAtL.up (.of x2) _ _ hW) (TrAtL.one ?_))
        show TrAt H2 v' (Pt.takeAt ts ((fi + st * i) % ts.length) ((fi + st * i) / ts.length) (st / Nat.gcd ts.length st))
        rw [Pt.takeAt_at _ _ _ _ _ (List.getElem?_eq_getElem hr')]
        exact hT2
      · rintro σ H' ⟨hx, ws, c1, c2, hws, hW, rfl⟩
        have wl := hW.len
        rw [List.length_map, List.length_range] at wl
        refine ⟨_, rfl, .ref q, _, rfl, .inl ⟨ws, Evl.sq_of hws, rfl⟩, rfl, _, rfl, ite2 (fun h1 => ?_) fun h1 => ?_⟩
        · have e1 : ws.length = 1 := by
            have := of_decide_eq_true h1
            injection this with this
            omega
          have e2 : ts.length / Nat.gcd ts.length st = 1 := by omega
          rw [e2] at hW
          obtain ⟨u, hu, hTu⟩ := TrAtL.get _ _ 0 _ hW rfl
          refine ⟨_, rfl, q, ws, 0, u, rfl, rfl, Evl.sq_of hws, atI_nat hu, hQ u H' hx ?_⟩
          rw [Pt.Tr.take, if_pos e2]
          have hTu2 : TrAt H' u (Pt.takeAt ts ((fi + st * 0) % ts.length) ((fi + st * 0) / ts.length) (st / Nat.gcd ts.length st)) := hTu
          rw [Nat.mul_zero, Nat.add_zero] at hTu2
          exact hTu2
        · have e2 : ¬ ts.length / Nat.gcd ts.length st = 1 := fun z => h1 (decide_eq_true (by rw [wl, z]; rfl))
          refine ⟨_, rfl, q, ws, rfl, .inl ⟨Evl.sq_of hws, fun l hl' => hQ (.ref l) _ (hx.trans (Evl.Ex.new hl')) ?_⟩⟩
          rw [Pt.Tr.take, if_neg e2]
          exact TrAt.mkN upd_same (TrAtL.up (ExtU.new hl') _ _ hW)
theorem ok_tak (F : FnP K "taken" sTak f fd) (FDiv : FnP K "divisor" sDiv fDiv fdDiv) (gLen : mg "len" = none) (gRange : mg "range" = none) (gTuple : mg "tuple" = none) (gIsi : mg "isinstance" = none) (gStr : mg "str" = none) (gDiv : mg "divisor" = some (.ref fDiv)) (gRec : mg "taken" = some (.ref f)) :
    ∀ d, FnOk P w K mg base CX0 (2 + d) f fd psTak (spTak d)
  | 0 => tak_step F FDiv gLen gRange gTuple gIsi gStr gDiv gRec 0 1 (by decide) _ ok_never fun _ z => nomatch z
  | d + 1 => tak_step F FDiv gLen gRange gTuple gIsi gStr gDiv gRec (d + 1) (2 + d) (by omega) _ (ok_tak F FDiv gLen gRange gTuple gIsi gStr gDiv gRec d) fun d' z => by cases z; rfl
end
end Tn
/-! factors_of: the loop's invariant. -/
namespace Pt
open PySem
theorem prodL_app : ∀ (a b : List Nat), prodL (a ++ b) = prodL a * prodL b
  | [], b => by simp [prodL]
  | p :: a, b => by rw [List.cons_append, prodL, prodL, prodL_app a b, Nat.mul_assoc]
/-- found, factor, number amid the loop for N -/
structure Fac (N : Nat) (fs : List Nat) (p m : Nat) : Prop where
  pos : 0 < m
  two : 2 ≤ p
  prod : prodL fs * m = N
  rough : ∀ d, 2 ≤ d → d < p → ¬ d ∣ m
theorem Fac.start {N : Nat} (h : 0 < N) : Fac N [] 2 N := ⟨h, Nat.le_refl _, by simp [prodL], fun d a b => by omega⟩
theorem Fac.le {N p m : Nat} {fs : List Nat} (F : Fac N fs p m) (h : 1 < m) : p ≤ m := by
  by_cases q : p ≤ m
  · exact q
  · exact absurd (Nat.dvd_refl m) (F.rough m (by omega) (by omega))
theorem Fac.hit {N p m : Nat} {fs : List Nat} (F : Fac N fs p m) (h : m % p = 0) : Fac N (fs ++ [p]) p (m / p) := by
  have hp : 0 < p := by have := F.two; omega
  obtain ⟨c, hc⟩ := Nat.dvd_of_mod_eq_zero h
  have e : m / p = c := by rw [hc, Nat.mul_div_cancel_left _ hp]
  rw [e]
  refine ⟨Nat.pos_of_ne_zero fun z => by have := F.pos; rw [hc, z] at this; simp at this, F.two, ?_, fun d a b q => F.rough d a b (Nat.dvd_trans q ⟨p, by rw [hc, Nat.mul_comm]⟩)⟩
  rw [prodL_app, prodL, prodL, Nat.mul_one, Nat.mul_assoc, ← hc, F.prod]
theorem Fac.miss {N p m : Nat} {fs : List Nat} (F : Fac N fs p m) (h : m % p ≠ 0) : Fac N fs (p + 1) m := by
  refine ⟨F.pos, by have := F.two; omega, F.prod, fun d a b q => ?_⟩
  by_cases e : d = p
  · subst e; exact h (Nat.mod_eq_zero_of_dvd q)
  · exact F.rough d a (by omega) q
theorem Fac.done {N p m : Nat} {fs : List Nat} (F : Fac N fs p m) (h : ¬ 1 < m) : prodL fs = N := by
  have := F.pos
  have e : m = 1 := by omega
  have q := F.prod
  rw [e, Nat.mul_one] at q
  exact q
/-- the loop's measure falls -/
theorem Fac.down {N p m : Nat} {fs : List Nat} (F : Fac N fs p m) (h : 1 < m) (hm : m % p = 0) : 2 * (m / p) - p < 2 * m - p ∧ m / p < m := by
  have h1 := F.le h
  have h2 : m / p < m := Nat.div_lt_self (by omega) (by have := F.two; omega)
  exact ⟨by omega, h2⟩
end Pt
/-! factors_of. -/
namespace Tn
open PySem PySem.Spec PyProof.Rows L2
theorem scFac : FnScope ["number", "found", "factor"] ["number"] (defScope sFac) := ⟨rfl, rfl, rfl, by decide +kernel, rfl, by decide +kernel, by decide +kernel⟩
/-- factors_of(N): a new list of numbers whose product is N -/
def spFac : Sp := fun vs H Q _ => ∃ N : Nat, vs = [.int N] ∧ 0 < N ∧ N < 100000 ∧ ∀ (a : Addr) (fs : List Nat), H a = none → Pt.prodL fs = N → (∀ p ∈ fs, 2 ≤ p) → fs.length ≤ N → Q (.ref a) (upd H a (.lst (fs.map fun p : Nat => V.int (p : Int))))
abbrev rEqI : R2 := rI0 fun i j => .bl (decide (i = j))
abbrev ipDiv : TIp := rI CDiv fun i j => .int (i / j)
def t_fac (K : PySem.W.Frag) : TS := tSeq (tAsg (tLst tNil) (gName 1)) (tSeq (tAsg (tC (.int 2)) (gName 2)) (tSeq (tWhile (tTest (tOp rGt0 (tVar 0) (tC (.int 1))))
  (tIfS (tTest (tOp rEq (tOp rMod0 (tVar 0) (tVar 2)) (tC (.int 0)))) (tSeq (tDrop (tBM K "list" rAppend (tVar 1) (tCons (tVar 2) tNil))) (tAug 0 (tVar 2) ipDiv)) (tAug 2 (tC (.int 1)) (ipI fun i j => i + j)))) (tRet (tVar 1))))
section
variable {P : Program} {w : World} {K : PySem.W.Frag} {mg : Str → Option Value} {base : Heap} {f : Addr} {fd : FuncData}
theorem walk_fac (F : FnP K "factors_of" sFac f fd) (h0 : ∀ vs H Q E, spFac vs H Q E → t_fac K { nx := fun _ H' => Q .non H', rt := Q } (L2.start ["number", "found", "factor"] vs) H) : FnOk P w K mg base CX0 1 f fd ["number"] spFac := by
  refine F.ok scFac (fun vs H Q E h => ?_) (fun cdv A outer s H vs Q E hr h => ⟨t_fac K, PSs.nox ?_, h0 vs H Q E h⟩)
  · obtain ⟨a, rfl, _⟩ := h
    rfl
  · exact pss_cons (ps_set (i := 1) scFac.nd rfl (Or.inl rfl) (pe_lst pa_nil)) (pss_cons (ps_set (i := 2) scFac.nd rfl (Or.inl rfl) pe_int) (pss_cons (ps_while ownx (pt_cmpR op_gt (pv 0) pe_int (nomark _))
      (pss_one (ps_if (pt_cmpR op_eq (pe_op op_mod (pv 0) (pv 2)) pe_int (nomark _)) (pss_cons (ps_expr (pe_bm PySem.F.plainAttrs_list PySem.F.slot_list_append PySem.F.type_list_append mt_append (pv 1) (pa_cons (pv 2) pa_nil))) (pss_one (ps_aug (i := 0) scFac.nd rfl (Or.inl rfl) (pv 2) iop_fdiv)))
        (pss_one (ps_aug (i := 2) scFac.nd rfl (Or.inl rfl) pe_int ip_add))))) (pss_one (ps_ret (pv 1)))))
end
end Tn
/-! factors_of, every, ahead. -/
namespace Tn
open PySem PySem.Spec PyProof.Rows L2
abbrev sEvery : Stmt := top 16
abbrev sAhead : Stmt := top 17
theorem scEvery : FnScope ["tree", "first", "step"] ["tree", "first", "step"] (defScope sEvery) := ⟨rfl, rfl, rfl, by decide +kernel, rfl, by decide +kernel, by decide +kernel⟩
theorem scAhead : FnScope ["tree", "count"] ["tree", "count"] (defScope sAhead) := ⟨rfl, rfl, rfl, by decide +kernel, rfl, by decide +kernel, by decide +kernel⟩
theorem ps_never {X : Cx} {st : Stmt} : PS X st (fun _ _ _ => False) := ⟨fun _ _ _ _ _ _ h => h.elim⟩
def spEvery (d : Nat) : Sp := fun vs H Q _ => ∃ (v : V) (t : Pt.Tr) (fi st : Nat), vs = [v, .int fi, .int st] ∧ TrAt H v t ∧ t.fit d ∧ 0 < st ∧ st ≤ 1000000 ∧ ∀ v' H', Evl.Ex H H' → TrAt H' v' (t.take fi st) → Q v' H'
def spAhead (d : Nat) : Sp := fun vs H Q _ => ∃ (v : V) (t : Pt.Tr) (fi : Nat), vs = [v, .int fi] ∧ TrAt H v t ∧ t.fit d ∧ ∀ v' H', Evl.Ex H H' → TrAt H' v' (t.take fi 1) → Q v' H'
section
variable {P : Program} {w : World} {K : PySem.W.Frag} {mg : Str → Option Value} {base : Heap} {f fDiv fTak fEvery : Addr} {fd fdDiv fdTak fdEvery : FuncData}
theorem ok_fac (F : FnP K "factors_of" sFac f fd) : FnOk P w K mg base CX0 1 f fd ["number"] spFac := by
  refine walk_fac F fun vs H Q E h => ?_
  obtain ⟨N, rfl, h0, hN, hQ⟩ := h
  refine ⟨by show 0 ≤ sizeLine; decide, fun a ha => ?_⟩
  refine ⟨fun n σ H' => ∃ (fs : List Nat) (p m : Nat), n = 2 * m - p ∧ Pt.Fac N fs p m ∧ fs.length + m ≤ N ∧ (∀ q ∈ fs, 2 ≤ q) ∧ H' = upd H a (.lst (fs.map fun q : Nat => V.int (q : Int))) ∧ σ = [some (.int m), some (.ref a), some (.int p)], ⟨_, [], 2, N, rfl, Pt.Fac.start h0, by simp, (fun q hq => nomatch hq), rfl, rfl⟩, ?_⟩
  rintro n σ H' ⟨fs, p, m, rfl, F, hl, h2, rfl, rfl⟩
  refine ⟨_, rfl, _, _, rfl, rfl, _, rfl, ite2 (fun h1 => ?_) fun h1 => ?_⟩
  · have h1' : 1 < m := by
      have := of_decide_eq_true h1
      omega
    have hp := F.two
    have hle := F.le h1'
    refine ⟨_, fun σ' H2 q => q, _, rfl, _, rfl, _, _, rfl, rfl, (by show (0 : Int) < (p : Int); omega), rfl, _, rfl, ite2 (fun hz => ?_) fun hz => ?_⟩
    · have hz' : m % p = 0 := by
        have := of_decide_eq_true hz
        injection this with this
        exact Int.ofNat.inj this
      have hd := F.down h1' hz'
      refine ⟨_, rfl, .inl ⟨rfl, _, Evl.sq_of upd_same⟩, _, rfl, a, _, _, rfl, rfl, upd_same, Evl.sz_lt (by rw [List.length_map]; omega), ?_⟩
      refine ⟨_, rfl, _, rfl, _, _, rfl, rfl, ⟨?_, ?_⟩, 2 * (m / p) - p, hd.1, fs ++ [p], p, m / p, rfl, F.hit hz', ?_, ?_, ?_, rfl⟩
      · show (0 : Int) < (p : Int); omega
      · show (p : Int) < 1073741824; omega
      · rw [List.length_append, List.length_singleton]; omega
      · intro q hq
        rcases List.mem_append.mp hq with hq | hq
        · exact h2 q hq
        · rw [List.mem_singleton.mp hq]; exact hp
      · rw [upd_upd', List.map_append]; rfl
    · have hz' : m % p ≠ 0 := fun z => hz (decide_eq_true (congrArg V.int (congrArg Int.ofNat z)))
      refine ⟨_, rfl, _, _, rfl, rfl, 2 * m - (p + 1), by omega, fs, p + 1, m, rfl, F.miss hz', hl, h2, rfl, rfl⟩
  · have h1' : ¬ 1 < m := fun z => h1 (decide_eq_true (by show (1 : Int) < (m : Int); omega))
    refine ⟨_, rfl, hQ a fs ha (F.done h1') h2 (by omega)⟩
theorem ok_every (F : FnP K "every" sEvery f fd) (FTak : FnP K "taken" sTak fTak fdTak) (FDiv : FnP K "divisor" sDiv fDiv fdDiv) (gLen : mg "len" = none) (gRange : mg "range" = none) (gTuple : mg "tuple" = none) (gIsi : mg "isinstance" = none) (gStr : mg "str" = none) (gDiv : mg "divisor" = some (.ref fDiv)) (gTak : mg "taken" = some (.ref fTak)) (d : Nat) :
    FnOk P w K mg base CX0 (3 + d) f fd ["tree", "first", "step"] (spEvery d) := by
  have GTak : FnOk P w K mg base CX0 (2 + d) fTak fdTak psTak (spTak d) := ok_tak FTak FDiv gLen gRange gTuple gIsi gStr gDiv gTak d
  have bTak : Binds K fdTak psTak [] := FTak.bindsN fun _ _ _ _ _ _ us hl => match us, hl with | [_, _, _], _ => rfl
  rw [show 3 + d = (2 + d) + 1 by omega]
  refine F.ok scEvery (fun vs H Q E h => ?_) (fun cdv A outer s H vs Q E hr h => ⟨_, PSs.nox (pss_cons (ps_if (PW.pt (pw_or (pt_cmpR op_lt (pv 1) pe_int (nomark _)) (pw_or1 (pt_cmpR op_lt (pv 2) pe_int (nomark _)))))
        (pss_one ps_never)
        pss_nil)
        (pss_one (ps_ret (pe_call GTak hr rfl gTak FTak.kp bTak .nil pass0 (pa_cons (pv 0) (pa_cons (pv 1) (pa_cons (pv 2) pa_nil))))))), ?_⟩)
  · obtain ⟨v, t, fi, st, rfl, _⟩ := h
    rfl
  · obtain ⟨v, t, fi, st, rfl, hT, hf, h0, hst, hQ⟩ := h
    refine ⟨_, rfl, _, _, rfl, rfl, _, rfl, ite2 (fun h => absurd (of_decide_eq_true h) (by omega)) fun _ => ?_⟩
    refine ⟨_, rfl, _, _, rfl, rfl, _, rfl, ite2 (fun h => absurd (of_decide_eq_true h) (by omega)) fun _ => ?_⟩
    exact ⟨_, rfl, _, rfl, _, rfl, v, t, fi, st, rfl, hT, hf, hst, hQ⟩
theorem ok_ahead (F : FnP K "ahead" sAhead f fd) (FEvery : FnP K "every" sEvery fEvery fdEvery) (FTak : FnP K "taken" sTak fTak fdTak) (FDiv : FnP K "divisor" sDiv fDiv fdDiv) (gLen : mg "len" = none) (gRange : mg "range" = none) (gTuple : mg "tuple" = none) (gIsi : mg "isinstance" = none) (gStr : mg "str" = none) (gDiv : mg "divisor" = some (.ref fDiv)) (gTak : mg "taken" = some (.ref fTak)) (gEvery : mg "every" = some (.ref fEvery)) (d : Nat) :
    FnOk P w K mg base CX0 (4 + d) f fd ["tree", "count"] (spAhead d) := by
  have GEvery : FnOk P w K mg base CX0 (3 + d) fEvery fdEvery ["tree", "first", "step"] (spEvery d) := ok_every FEvery FTak FDiv gLen gRange gTuple gIsi gStr gDiv gTak d
  have bEvery : Binds K fdEvery ["tree", "first", "step"] [] := FEvery.bindsN fun _ _ _ _ _ _ us hl => match us, hl with | [_, _, _], _ => rfl
  rw [show 4 + d = (3 + d) + 1 by omega]
  refine F.ok scAhead (fun vs H Q E h => ?_) (fun cdv A outer s H vs Q E hr h => ⟨_, PSs.nox (pss_one (ps_ret (pe_call GEvery hr rfl gEvery FEvery.kp bEvery .nil pass0 (pa_cons (pv 0) (pa_cons (pv 1) (pa_cons pe_int pa_nil)))))), ?_⟩)
  · obtain ⟨v, t, fi, rfl, _⟩ := h
    rfl
  · obtain ⟨v, t, fi, rfl, hT, hf, hQ⟩ := h
    exact ⟨_, rfl, _, rfl, v, t, fi, 1, rfl, hT, hf, by decide, by decide, hQ⟩
end
end Tn
/-! is_equal, period. -/
namespace Pt
open PySem
theorem lcm_dvd {a b m : Nat} (h1 : a ∣ m) (h2 : b ∣ m) : a / Nat.gcd a b * b ∣ m := by
  have e : a / Nat.gcd a b * b = Nat.lcm a b := by
    unfold Nat.lcm
    exact Nat.div_mul_right_comm (Nat.gcd_dvd_left a b) b
  rw [e]
  exact Nat.lcm_dvd h1 h2
theorem lcmF_dvd (m : Nat) : ∀ (l : List End) (a : Nat), a ∣ m → (∀ e ∈ l, e.2.1 ∣ m) → lcmF l a ∣ m
  | [], _, h, _ => h
  | e :: l, a, h, k => by
    rw [lcmF]
    exact lcmF_dvd m l _ (lcm_dvd h (k e List.mem_cons_self)) fun e he => k e (List.mem_cons_of_mem _ he)
mutual
theorem ends_12 : ∀ (t : Tr) (d f st : Nat), t.fit d → ∀ e ∈ t.ends f st, e.2.1 ∣ st * 12 ^ d
  | .lf s, d, f, st, _, e, he => by
    rw [Tr.ends] at he
    rw [List.mem_singleton.mp he]
    exact Nat.dvd_mul_right _ _
  | .nd ts, 0, _, _, h, _, _ => by rw [Tr.fit] at h; exact h.elim
  | .nd ts, d + 1, f, st, h, e, he => by
    rw [Tr.fit] at h
    rw [Tr.ends] at he
    refine Nat.dvd_trans (endsL_12 ts d f st _ 0 h.2.2 e he) ?_
    rw [Nat.pow_succ, Nat.mul_assoc, Nat.mul_comm (12 ^ d)]
    refine Nat.mul_dvd_mul_left _ (Nat.mul_dvd_mul_right ?_ _)
    have : ts.length = 2 ∨ ts.length = 3 ∨ ts.length = 4 := by omega
    rcases this with e | e | e <;> rw [e] <;> decide
theorem endsL_12 : ∀ (ts : List Tr) (d f st w i : Nat), fitL ts d → ∀ e ∈ endsL ts f st w i, e.2.1 ∣ w * 12 ^ d
  | [], _, _, _, _, _, _, e, he => by rw [endsL] at he; cases he
  | t :: ts, d, f, st, w, i, h, e, he => by
    rw [fitL] at h
    rw [endsL] at he
    rcases List.mem_append.mp he with he | he
    · exact ends_12 t d _ w h.1 e he
    · exact endsL_12 ts d f st w (i + 1) h.2 e he
end
theorem lcm144 {t : Tr} (h : t.fit 2) : lcmF (t.ends 0 1) 1 ∣ 144 := lcmF_dvd 144 _ 1 (Nat.one_dvd _) fun e he => by
  have := ends_12 t 2 0 1 h e he
  simpa using this
theorem redF_app (t : Tr) : ∀ (l m : List Nat) (a : Nat), redF t (l ++ m) a = redF t m (redF t l a)
  | [], m, a => rfl
  | p :: l, m, a => by
    rw [List.cons_append, redF, redF]
    split
    · exact redF_app t l m _
    · exact redF_app t l m _
theorem dvd_prodL : ∀ (l : List Nat) (p : Nat), p ∈ l → p ∣ prodL l
  | [], p, h => by cases h
  | q :: l, p, h => by
    rw [prodL]
    rcases List.mem_cons.mp h with rfl | h
    · exact Nat.dvd_mul_right _ _
    · exact Nat.dvd_trans (dvd_prodL l p h) (Nat.dvd_mul_left _ _)
theorem redF_le (t : Tr) : ∀ (l : List Nat) (a : Nat), redF t l a ≤ a
  | [], a => Nat.le_refl _
  | p :: l, a => by
    rw [redF]
    split
    · exact Nat.le_trans (redF_le t l _) (Nat.div_le_self _ _)
    · exact redF_le t l a
end Pt
namespace Tn
open PySem PySem.Spec PyProof.Rows L2 Gk
abbrev sIsEq : Stmt := top 27
abbrev sPer : Stmt := top 28
abbrev nIsEq : List Str := ["one", "other", "first", "step", "owner", "row"]
abbrev nPer : List Str := ["tree", "found", "first", "step", "owner", "factor"]
theorem scIsEq : FnScope nIsEq ["one", "other"] (defScope sIsEq) := ⟨rfl, rfl, rfl, by decide +kernel, rfl, by decide +kernel, by decide +kernel⟩
theorem scPer : FnScope nPer ["tree"] (defScope sPer) := ⟨rfl, rfl, rfl, by decide +kernel, rfl, by decide +kernel, by decide +kernel⟩
def spIsEq : Sp := fun vs H Q _ => ∃ (v1 v2 : V) (t u : Pt.Tr), vs = [v1, v2] ∧ TrAt H v1 t ∧ TrAt H v2 u ∧ t.fit 2 ∧ u.fit 2 ∧ ∀ (b : Bool) H', Evl.Ex H H' → (b = true ↔ Pt.isEq t u) → Q (.bl b) H'
def spPer : Sp := fun vs H Q _ => ∃ (v : V) (t : Pt.Tr), vs = [v] ∧ TrAt H v t ∧ t.fit 2 ∧ ∀ (n : Nat) H', Evl.Ex H H' → 0 < n → n ∣ Pt.lcmF (t.ends 0 1) 1 → (∀ x, t.own (x + n) = t.own x) → Q (.int n) H'
section
variable {P : Program} {w : World} {K : PySem.W.Frag} {mg : Str → Option Value} {base : Heap} {f fEnds fDiv fTak fFac fIsEq : Addr} {fd fdEnds fdDiv fdTak fdFac fdIsEq : FuncData}
theorem ok_iseq (F : FnP K "is_equal" sIsEq f fd) (FEnds : FnPD K "ends" sEnds [.int 0, .int 1] fEnds fdEnds) (FTak : FnP K "taken" sTak fTak fdTak) (FDiv : FnP K "divisor" sDiv fDiv fdDiv) (gLen : mg "len" = none) (gRange : mg "range" = none) (gTuple : mg "tuple" = none) (gIsi : mg "isinstance" = none) (gStr : mg "str" = none) (gEnum : mg "enumerate" = none) (gAll : mg "all" = none)
    (gEnds : mg "ends" = some (.ref fEnds)) (gTak : mg "taken" = some (.ref fTak)) (gDiv : mg "divisor" = some (.ref fDiv)) : FnMd P w K mg base 8 f fd ["one", "other"] spIsEq := by
  have GEnds : GFn1 P w K mg base 7 fEnds fdEnds psEnds (spEnds 2) := ok_ends FEnds gLen gIsi gStr gEnum gEnds 2
  obtain ⟨ds, rds, bEnds⟩ := ends_b1 FEnds
  have GTak : FnMd P w K mg base 4 fTak fdTak psTak (spTak 2) := Gk.FnOk.md (ok_tak FTak FDiv gLen gRange gTuple gIsi gStr gDiv gTak 2)
  have bTak : L2.Binds K fdTak psTak [] := FTak.bindsN fun _ _ _ _ _ _ us hl => match us, hl with | [_, _, _], _ => rfl
  refine fn_mdD F scIsEq (fun vs H Q E h => ?_) (fun cdv A outer s H vs Q hr h => ⟨_, (pss_cons1 (ps_for1 (fun _ _ z => z) (pi_gen1 hr rfl (pgen_call1 GEnds (hr.mono (by decide)) rfl gEnds FEnds.kp bEnds rds (PA.up (fun _ _ z => z) (pa_cons (pv 0) pa_nil)))) (pg_tup rfl (pgs_cons (pg_name (i := 2) scIsEq.nd rfl (Or.inl rfl)) (pgs_cons (pg_name (i := 3) scIsEq.nd rfl (Or.inl rfl)) (pgs_cons (pg_name (i := 4) scIsEq.nd rfl (Or.inr rfl)) pgs_nil))))
        (pss_one1 (ps_if1 (pt_not1 (pt_val1 (pe_callB1 (fun _ _ z => z) (cr_all rfl) (by rfl) gAll boot_all (pa_cons1 (pe_lc1 (own := [("row", 5)]) (g := gName 5) (te := tOp rEq (tOp (rIxT K) (tVar 5) (tC (.int 2))) (tVar 4)) (tt := tYes) (fun _ _ z => z) scIsEq.nd (pi_gen1 hr rfl (pgen_call1 GEnds (hr.mono (by decide)) rfl gEnds FEnds.kp bEnds rds (pa_cons1 (pe_call1 GTak (hr.mono (by decide)) rfl gTak FTak.kp bTak .nil (PA.up (fun _ _ z => z) (pa_cons (pv 1) (pa_cons (pv 2) (pa_cons (pv 3) pa_nil))))) pa_nil1))) (blkOk_by (N := nIsEq) (sc := defScope sIsEq) (by decide +kernel)) (by decide +kernel) (fun _ _ _ _ _ => (pg_name (i := 5) scIsEq.nd rfl (Or.inl rfl))) (fun _ _ _ _ _ => pts_nil) (fun _ _ _ _ _ => (PE.up (fun _ _ z => z) (pe_cmpR op_eq (pe_ix ix_tup (pv 5) pe_int fun _ _ => rfl) (pv 4) (nomark _))))) pa_nil1))))
        (PSs.up (fun _ _ z => z) (pss_one (ps_ret pe_bl)))
        pss_nil1)))
        (pss_one1 (ps_ret1 (PE.up (fun _ _ z => z) pe_bl)))), ?_⟩)
  · obtain ⟨v1, v2, t, u, rfl, _⟩ := h
    rfl
  · obtain ⟨v1, v2, t, u, rfl, hT, hU, hf, hfu, hQ⟩ := h
    refine ⟨_, rfl, _, _, ⟨v1, t, 0, 1, H, rfl, rfl, ExtU.refl H, hT, hf, by decide, by decide, rfl⟩, ?_⟩
    refine for_ends (fun i σ H' => Evl.Ex H H' ∧ (∀ e ∈ (t.ends 0 1).take i, ∀ r ∈ (u.take e.1 e.2.1).ends 0 1, r.2.2 = e.2.2) ∧ ∃ c1 c2 c3 c4 : Option V, σ = [some v1, some v2, c1, c2, c3, c4]) ?_ ?_ ?_ ?_ ?_
    · rintro i σ H1 H2 xx ⟨x1, h⟩
      exact ⟨x1.trans xx, h⟩
    · rintro i σ H1 ⟨x1, _⟩
      exact .of x1
    · exact ⟨Evl.Ex.refl H, (fun e he => nomatch he), none, none, none, none, rfl⟩
    · rintro i e a σ H1 he ⟨x1, hall, c1, c2, c3, c4, rfl⟩ ha
      have hm := List.mem_of_getElem? he
      have hle := Pt.ends_le t 2 0 1 hf e hm
      refine ⟨a, _, rfl, Evl.st_of ha, rfl, _, _, rfl, _, _, rfl, _, _, rfl, rfl, ?_⟩
      refine ⟨_, rfl, _, rfl, _, rfl, v2, u, e.1, e.2.1, rfl, TrAt.up (.of x1) _ _ hU, hfu, by omega, fun v' H2 x2 hT2 => ?_⟩
      have hf2 := Pt.take_fit u 2 e.1 e.2.1 hfu
      refine ⟨_, _, ⟨v', _, 0, 1, H2, rfl, rfl, ExtU.refl H2, hT2, hf2, by decide, by decide, rfl⟩, fun D hD => ?_⟩
      generalize hes : (u.take e.1 e.2.1).ends 0 1 = es
      have hc : es.length ≤ 16 := by rw [← hes]; exact Pt.ends_count _ 2 0 1 hf2
      refine comp_ends (fun j H' => Evl.Ex H2 H' ∧ H' D = some (.lst (((es.take j).map fun r => decide (r.2.2 = e.2.2)).map V.bl))) ?_ ?_ ?_ ?_ ?_
      · rintro i H3 H4 xx ⟨x3, h⟩
        exact ⟨x3.trans xx, xx _ _ h⟩
      · rintro i H3 ⟨x3, _⟩
        exact .of x3
      · exact ⟨Evl.Ex.new hD, upd_same⟩
      · rintro j r b H3 hr ⟨x3, h3⟩ hb
        refine ⟨rfl, t_yes ⟨_, rfl, b, _, 2, _, rfl, rfl, Evl.st_of hb, rfl, _, rfl, rfl, _, h3, ?_, x3.mut hD, ?_⟩⟩
        · exact Evl.sz_lt (by rw [List.length_map, List.length_map, List.length_take]; omega)
        · rw [upd_same, List.take_succ, hr, List.map_append, List.map_append]
          show some (HO.lst (_ ++ [V.bl (decide (V.str r.2.2 = V.str e.2.2))])) = some (HO.lst (_ ++ [V.bl (decide (r.2.2 = e.2.2))]))
          rw [show decide (V.str r.2.2 = V.str e.2.2) = decide (r.2.2 = e.2.2) from decide_eq_decide.mpr ⟨fun z => by injection z, fun z => by rw [z]⟩]
      · rintro H3 ⟨x3, h3⟩
        rw [List.take_length] at h3
        refine ⟨D, _, rfl, Evl.sq_of h3, _, rfl, ?_⟩
        have xx : Evl.Ex H H3 := x1.trans (x2.trans x3)
        cases hb : (es.map fun r => decide (r.2.2 = e.2.2)).all id with
        | true =>
          have hb' : ∀ r ∈ es, r.2.2 = e.2.2 := fun r hr => by
            have := List.all_eq_true.mp hb _ (List.mem_map_of_mem hr)
            exact of_decide_eq_true this
          refine iteF ⟨xx, fun e' he' => ?_, some (.int e.1), some (.int e.2.1), some (.str e.2.2), c4, rfl⟩
          rw [List.take_succ, he] at he'
          rcases List.mem_append.mp he' with h | h
          · exact hall e' h
          · rw [List.mem_singleton.mp h, hes]
            exact hb'
        | false =>
          refine iteT (hQ false H3 xx ⟨(fun z => nomatch z), fun z => ?_⟩)
          have : (es.map fun r => decide (r.2.2 = e.2.2)).all id = true := List.all_eq_true.mpr fun b hb => by
            obtain ⟨r, hr, rfl⟩ := List.mem_map.mp hb
            rw [← hes] at hr
            exact decide_eq_true (z e hm r hr)
          rw [hb] at this
          cases this
    · rintro σ H1 ⟨x1, hall, c1, c2, c3, c4, rfl⟩
      rw [List.take_length] at hall
      exact hQ true H1 x1 ⟨(fun _ => hall), fun _ => rfl⟩
theorem ok_per (F : FnP K "period" sPer f fd) (FIsEq : FnP K "is_equal" sIsEq fIsEq fdIsEq) (FFac : FnP K "factors_of" sFac fFac fdFac) (FEnds : FnPD K "ends" sEnds [.int 0, .int 1] fEnds fdEnds) (FTak : FnP K "taken" sTak fTak fdTak) (FDiv : FnP K "divisor" sDiv fDiv fdDiv) (gLen : mg "len" = none) (gRange : mg "range" = none) (gTuple : mg "tuple" = none) (gIsi : mg "isinstance" = none) (gStr : mg "str" = none) (gEnum : mg "enumerate" = none) (gAll : mg "all" = none)
    (gEnds : mg "ends" = some (.ref fEnds)) (gTak : mg "taken" = some (.ref fTak)) (gDiv : mg "divisor" = some (.ref fDiv)) (gFac : mg "factors_of" = some (.ref fFac)) (gIsEq : mg "is_equal" = some (.ref fIsEq)) : FnMd P w K mg base 9 f fd ["tree"] spPer := by
  have GEnds : GFn1 P w K mg base 7 fEnds fdEnds psEnds (spEnds 2) := ok_ends FEnds gLen gIsi gStr gEnum gEnds 2
  obtain ⟨ds, rds, bEnds⟩ := ends_b1 FEnds
  have GTak : FnMd P w K mg base 4 fTak fdTak psTak (spTak 2) := Gk.FnOk.md (ok_tak FTak FDiv gLen gRange gTuple gIsi gStr gDiv gTak 2)
  have bTak : L2.Binds K fdTak psTak [] := FTak.bindsN fun _ _ _ _ _ _ us hl => match us, hl with | [_, _, _], _ => rfl
  have GDiv : FnOk P w K mg base CX0 1 fDiv fdDiv ["one", "other"] spDiv := ok_div FDiv
  have bDiv : L2.Binds K fdDiv ["one", "other"] [] := FDiv.bindsN fun _ _ _ _ _ _ us hl => match us, hl with | [_, _], _ => rfl
  have GFac : FnOk P w K mg base CX0 1 fFac fdFac ["number"] spFac := ok_fac FFac
  have bFac : L2.Binds K fdFac ["number"] [] := FFac.bindsN fun _ _ _ _ _ _ us hl => match us, hl with | [_], _ => rfl
  have GIsEq : FnMd P w K mg base 8 fIsEq fdIsEq ["one", "other"] spIsEq := ok_iseq FIsEq FEnds FTak FDiv gLen gRange gTuple gIsi gStr gEnum gAll gEnds gTak gDiv
  have bIsEq : L2.Binds K fdIsEq ["one", "other"] [] := FIsEq.bindsN fun _ _ _ _ _ _ us hl => match us, hl with | [_, _], _ => rfl
  refine fn_mdD F scPer (fun vs H Q E h => ?_) (fun cdv A outer s H vs Q hr h => ⟨_, (pss_cons1 (PS.up (fun _ _ z => z) (ps_set (i := 1) scPer.nd rfl (Or.inl rfl) pe_int))
        (pss_cons1 (ps_for1 (fun _ _ z => z) (pi_gen1 (hr.mono (by decide)) rfl (pgen_call1 GEnds (hr.mono (by decide)) rfl gEnds FEnds.kp bEnds rds (PA.up (fun _ _ z => z) (pa_cons (pv 0) pa_nil)))) (pg_tup rfl (pgs_cons (pg_name (i := 2) scPer.nd rfl (Or.inl rfl)) (pgs_cons (pg_name (i := 3) scPer.nd rfl (Or.inl rfl)) (pgs_cons (pg_name (i := 4) scPer.nd rfl (Or.inl rfl)) pgs_nil))))
        (PSs.up (fun _ _ z => z) (pss_one (ps_set (i := 1) scPer.nd rfl (Or.inl rfl) (pe_op op_mul (pe_op op_fdiv (pv 1) (pe_call GDiv (hr.mono (by decide)) rfl gDiv FDiv.kp bDiv .nil pass0 (pa_cons (pv 1) (pa_cons (pv 3) pa_nil)))) (pv 3))))))
        (pss_cons1 (ps_for1 (fun _ _ z => z) (pi_list1 rfl (PE.up (fun _ _ z => z) (pe_call GFac (hr.mono (by decide)) rfl gFac FFac.kp bFac .nil pass0 (pa_cons (pv 1) pa_nil)))) (pg_name (i := 5) scPer.nd rfl (Or.inl rfl))
        (pss_one1 (ps_if1 (pt_val1 (pe_call1 GIsEq hr rfl gIsEq FIsEq.kp bIsEq .nil (pa_cons1 (PE.up (fun _ _ z => z) (pv 0)) (pa_cons1 (pe_call1 GTak (hr.mono (by decide)) rfl gTak FTak.kp bTak .nil (PA.up (fun _ _ z => z) (pa_cons (pv 0) (pa_cons (pe_op op_fdiv (pv 1) (pv 5)) (pa_cons pe_int pa_nil))))) pa_nil1))))
        (PSs.up (fun _ _ z => z) (pss_one (ps_aug (i := 1) scPer.nd rfl (Or.inl rfl) (pv 5) iop_fdiv)))
        pss_nil1)))
        (pss_one1 (ps_ret1 (PE.up (fun _ _ z => z) (pv 1))))))), ?_⟩)
  · obtain ⟨v, t, rfl, _⟩ := h
    rfl
  · obtain ⟨v, t, rfl, hT, hf, hQ⟩ := h
    refine ⟨_, rfl, _, _, ⟨v, t, 0, 1, H, rfl, rfl, ExtU.refl H, hT, hf, by decide, by decide, rfl⟩, ?_⟩
    refine for_ends (fun i σ H' => Evl.Ex H H' ∧ ∃ c1 c2 c3 : Option V, σ = [some v, some (.int (Pt.lcmF ((t.ends 0 1).take i) 1 : Nat)), c1, c2, c3, none]) ?_ ?_ ?_ ?_ ?_
    · rintro i σ H1 H2 xx ⟨x1, h⟩
      exact ⟨x1.trans xx, h⟩
    · rintro i σ H1 ⟨x1, _⟩
      exact .of x1
    · exact ⟨Evl.Ex.refl H, none, none, none, rfl⟩
    · rintro i e a σ H1 he ⟨x1, c1, c2, c3, rfl⟩ ha
      have hm := List.mem_of_getElem? he
      have hle := Pt.ends_le t 2 0 1 hf e hm
      have hpos := Pt.ends_pos t 0 1 (by decide) hf.ok e hm
      refine ⟨a, _, rfl, Evl.st_of ha, rfl, _, _, rfl, _, _, rfl, _, _, rfl, rfl, ?_⟩
      refine ⟨_, rfl, _, rfl, _, rfl, _, e.2.1, rfl, _, _, rfl, rfl, ⟨?_, ?_⟩, _, rfl, _, _, rfl, rfl, .inr ⟨?_, ?_⟩, x1, some (.int e.1), some (.int e.2.1), some (.str e.2.2), ?_⟩
      · have := Nat.gcd_pos_of_pos_left (Pt.lcmF ((t.ends 0 1).take i) 1) hpos
        show (0 : Int) < (_ : Nat)
        omega
      · have := Nat.gcd_le_left (Pt.lcmF ((t.ends 0 1).take i) 1) hpos
        show ((_ : Nat) : Int) < 1073741824
        omega
      · show -(2 ^ 64 : Int) < (e.2.1 : Int); omega
      · show (e.2.1 : Int) < 2 ^ 64; omega
      · rw [List.take_succ, he]
        show _ = [_, some (V.int (Pt.lcmF ((t.ends 0 1).take i ++ [e]) 1 : Nat)), some (.int e.1), some (.int e.2.1), some (.str e.2.2), none]
        rw [Pt.lcmF_app, Pt.lcmF, Pt.lcmF, Nat.gcd_comm]
        rfl
    · rintro σ H1 ⟨x1, c1, c2, c3, rfl⟩
      rw [List.take_length]
      have hL := Pt.lcm144 hf
      have hL0 : 0 < Pt.lcmF (t.ends 0 1) 1 := Nat.pos_of_dvd_of_pos hL (by decide)
      have hLle : Pt.lcmF (t.ends 0 1) 1 ≤ 144 := Nat.le_of_dvd (by decide) hL
      refine ⟨_, rfl, Pt.lcmF (t.ends 0 1) 1, rfl, hL0, by omega, fun p fs hp hpr h2 hlen => ⟨p, rfl, ⟨_, Evl.sq_of upd_same⟩, ?_⟩⟩
      obtain ⟨k1, k2, k3⟩ := Pt.period_ok hf.ok hpr
      generalize hLL : Pt.lcmF (t.ends 0 1) 1 = L at *
      refine for_list1 (xs := fs.map fun p : Nat => V.int (p : Int)) (fun i σ H' => Evl.Ex H H' ∧ H' p = some (.lst (fs.map fun p : Nat => V.int (p : Int))) ∧ ∃ c : Option V, σ = [some v, some (.int (Pt.redF t (fs.take i) L : Nat)), c1, c2, c3, c]) ?_ ?_ ?_ ?_ ?_
      · rintro i σ H2 H3 xx ⟨x2, h, h'⟩
        exact ⟨x2.trans xx, xx _ _ h, h'⟩
      · exact ⟨x1.trans (Evl.Ex.new hp), upd_same, none, rfl⟩
      · rintro i σ H2 _ ⟨_, h, _⟩
        exact Evl.sq_of h
      · rintro i x σ H2 hx ⟨x2, hl, c, rfl⟩
        rw [List.getElem?_map] at hx
        obtain ⟨q, hq, rfl⟩ := Option.map_eq_some_iff.mp hx
        have hqm := List.mem_of_getElem? hq
        have hq2 := h2 q hqm
        have hqle : q ≤ L := Nat.le_of_dvd hL0 (by rw [← hpr]; exact Pt.dvd_prodL fs q hqm)
        refine ⟨_, rfl, _, rfl, _, rfl, _, rfl, _, _, rfl, rfl, ⟨?_, ?_⟩, v, t, Pt.redF t (fs.take i) L / q, 1, rfl, TrAt.up (.of x2) _ _ hT, hf, by decide, fun v' H3 x3 hT3 => ?_⟩
        · show (0 : Int) < (q : Int); omega
        · show (q : Int) < 1073741824; omega
        refine ⟨v, v', t, _, rfl, TrAt.up (.of (x2.trans x3)) _ _ hT, hT3, hf, Pt.take_fit t 2 _ 1 hf, fun b H4 x4 hb => ⟨b, rfl, ?_⟩⟩
        have snoc : Pt.redF t (fs.take (i + 1)) L = Pt.redF t [q] (Pt.redF t (fs.take i) L) := by
          rw [List.take_succ, hq, Pt.redF_app]
          rfl
        have xx : Evl.Ex H H4 := x2.trans (x3.trans x4)
        cases b with
        | true =>
          have e : Pt.redF t (fs.take (i + 1)) L = Pt.redF t (fs.take i) L / q := by
            rw [snoc, Pt.redF, if_pos (hb.mp rfl), Pt.redF]
          refine iteT ⟨_, rfl, _, rfl, _, _, rfl, rfl, ⟨?_, ?_⟩, xx, x4 _ _ (x3 _ _ hl), some (.int q), ?_⟩
          · show (0 : Int) < (q : Int); omega
          · show (q : Int) < 1073741824; omega
          · rw [e]; rfl
        | false =>
          have e : Pt.redF t (fs.take (i + 1)) L = Pt.redF t (fs.take i) L := by
            rw [snoc, Pt.redF, if_neg (fun z => by have := hb.mpr z; cases this), Pt.redF]
          refine iteF ⟨xx, x4 _ _ (x3 _ _ hl), some (.int q), ?_⟩
          rw [e]; rfl
      · rintro σ H2 ⟨x2, hl, c, rfl⟩
        rw [List.length_map, List.take_length]
        exact ⟨_, rfl, hQ _ H2 x2 k1 k2 k3⟩
end
end Tn
/-! while; name = [..], in the marked machine. -/
namespace Gk
open PySem PySem.Spec PyProof.Rows L2
open Sem (wp)
/-! ### while -/
theorem md_while {P : Program} {w : World} {A : Around} {R : Result → Shared → Prop} {s : Shared} {test : Expr} {body orelse : List Stmt} {env : Env} (I : Nat → Shared → Prop)
    (turn : ∀ n s, I n s → wpAny (Md P w) A (isTrue test env (eval test env)) (fun b s2 => if b = true then wpAny (Md P w) A (execs body env) (fun f s3 => match f with
            | .next | .cont => ∃ m, m < n ∧ I m s3
            | .brk => R (.ok .next) s3
            | .ret v => R (.ok (.ret v)) s3) no s2
        else wpAny (Md P w) A (execs orelse env) (fun f s3 => R (.ok f) s3) no s2) no s)
    (n : Nat) (h : I n s) : codeAny (Md P w) A (.whileLoop test body orelse env) R s := by
  refine md_loop rfl I (fun n s hI => ?_) n h
  show wpAny _ A ((whileTurn test body orelse env).onRaise (fun x => do noteFrame x env; theTreesLotGoes x)) _ _ s
  refine wpAny_noted (wpAny_mono (E := no) ?_ (fun _ _ q => q) fun _ _ q => q.elim)
  simp only [whileTurn]
  refine wpAny_bind (wpAny_mono (turn n s hI) (fun b s2 h2 => ?_) fun _ _ z => z)
  cases b with
  | false =>
    simp only [Bool.false_eq_true, if_false] at h2 ⊢
    exact wpAny_bind (wpAny_mono h2 (fun f s3 h3 => wpAny_pure h3) fun _ _ z => z)
  | true =>
    simp only [if_true] at h2 ⊢
    refine wpAny_bind (wpAny_mono h2 (fun f s3 h3 => ?_) fun _ _ z => z)
    cases f with
    | next => exact wpAny_pure (.inl ⟨rfl, h3⟩)
    | cont => exact wpAny_pure (.inl ⟨rfl, h3⟩)
    | brk => exact wpAny_pure h3
    | ret v => exact wpAny_pure h3
section
variable {X : Cx}
theorem ps_while1 {c : Expr} {body : List Stmt} {tc : TT} {tb : TS} {pos : Pos} (hc : PT1 X c tc) (hb : PSs1 X body tb) : PS1 X (.While c body [] pos) (tWhile tc tb) := by
  refine ⟨fun pins s σ H D I h => ?_⟩
  obtain ⟨W, ⟨m0, w0⟩, turn⟩ := h
  refine wpAny_While (md_while (fun n s' => ∃ p σ' H', Sub pins p ∧ In1 X p σ' H' s' ∧ W n σ' H') ?_ m0 ⟨pins, σ, H, .refl _, I, w0⟩)
  rintro n s1 ⟨p1, σ1, H1, z1, I1, w1⟩
  refine mo (hc.run p1 s1 σ1 H1 _ I1 (turn n σ1 H1 w1)) fun b s2 ⟨p2, H2, z2, I2, q2⟩ => ?_
  cases b with
  | true =>
    obtain ⟨N, hN, q2⟩ := q2
    rw [if_pos rfl]
    refine mo (hb.run p2 s2 σ1 H2 _ I2 q2) fun f s3 q3 => ?_
    cases f with
    | next =>
      obtain ⟨p3, σ3, H3, z3, I3, n3⟩ := q3
      obtain ⟨m', hm, w3⟩ := hN σ3 H3 n3
      exact ⟨m', hm, p3, σ3, H3, z1.trans (z2.trans z3), I3, w3⟩
    | cont =>
      obtain ⟨p3, σ3, H3, z3, I3, n3⟩ := q3
      obtain ⟨m', hm, w3⟩ := hN σ3 H3 n3
      exact ⟨m', hm, p3, σ3, H3, z1.trans (z2.trans z3), I3, w3⟩
    | brk => obtain ⟨p3, σ3, H3, z3, I3, n3⟩ := q3; exact ⟨p3, σ3, H3, z1.trans (z2.trans z3), I3, n3⟩
    | ret v => obtain ⟨p3, y, σ3, H3, z3, I3, r3, n3⟩ := q3; exact ⟨p3, y, σ3, H3, z1.trans (z2.trans z3), I3, r3, n3⟩
  | false =>
    rw [if_neg Bool.false_ne_true]
    exact wpAny_execs_nil ⟨p2, σ1, H2, z1.trans z2, I2, q2⟩
theorem comp1u {e tg iter : Expr} {ifs : List Expr} {scope : Scope} {own : List (Str × Nat)} {pos' : Pos} {wi : TI1} {g : TG} {tt : TT} {emit : Value → Env → Sem Unit} {tem : Addr → L2.St → Hp → (Hp → Prop) → Prop} {newAcc : Sem Value} {oAcc : Obj} {h0 : Addr → HO}
    (hx : Nox X) (hN : X.N.Nodup) (hi : PI1 X tg iter wi) (ok : BlkOk X.N X.env.scope scope own) (hnocell : ∀ y ∈ scope.names, y.2 ≠ .cell) (hcl : clausesOf e = [⟨tg, iter, ifs, 0⟩]) (he : TurnEq e tg iter ifs emit) (hge : ∀ elt gens sc pos, e ≠ .GeneratorExp elt gens sc pos)
    (hnew : ∀ {A : Around} {s : Shared} {Q : Value → Shared → Prop}, AllBare s.gens → Q (.ref s.heap.objs.size) { s with heap := s.heap.push oAcc } → wpAny (Md X.prog X.w) A newAcc Q no s) (hobj : ∀ (H : Hp) (h : Heap) (D : Addr), sysModules < D → h.get? D = some oAcc → ObjOk X.prog X.w H h D (h0 D)) (hfr : oAcc.isFreed = false)
    (hg : ∀ (s : Shared) (H : Hp) (C : Addr) (cl : List (Str × Addr)) (fp : List Addr), PG (X.blk s H scope (compEnvC scope cl C X.env) fp) tg g) (ht : ∀ (s : Shared) (H : Hp) (C : Addr) (cl : List (Str × Addr)) (fp : List Addr), PTs (X.blk s H scope (compEnvC scope cl C X.env) fp) ifs tt)
    (hem : ∀ (s : Shared) (H : Hp) (C : Addr) (cl : List (Str × Addr)) (fp : List Addr) (D : Addr), PEm (X.blk s H scope (compEnvC scope cl C X.env) fp) (emit (.ref D) (compEnvC scope cl C X.env)) (tem D)) (hs : ∀ x, foldedSetIterable iter X.env x = pure x)
    {pins : Pl} {s : Shared} {σ : L2.St} {H : Hp} {Q : VK} {use : Option (Value → Sem Unit)} {Qf : Value → Shared → Prop} (I : In1 X pins σ H s) (h : tCm wi g tt tem h0 (own.map (·.2)) σ H Q)
    (hRR : ∀ (D : Addr) (pF : Pl) (H6 : Hp) (s6 : Shared) (Cd : Addr) (m : Str → Option Value), Sub pins pF → In1 X pF σ H6 s6 → Q (.ref D) H6 → s6.heap.Ns Cd m → FpOk X pF H6 Cd → compPost (Md X.prog X.w) X.A no use Qf (.ref D) Cd (.ok .next) s6) :
    wpAny (Md X.prog X.w) X.A (comprehension e scope X.env pos' newAcc false (eval iter X.env) use) Qf no s := by
  have hfree : ∀ y ∈ scope.names, y.2 = .free → ∃ c, X.env.cells.lookup y.1 = some c := fun y hy e => by
    rcases ok.free y hy e with k | k
    · exact I.inv.ok.has _ (.inl k)
    · exact I.inv.ok.has _ (.inr k)
  obtain ⟨hu1, hu2, hq⟩ : (∀ (A : Around) it acc env, A.under (Code.compLoop e 0 it acc env) = A) ∧ (∀ (A : Around) it acc env, A.under (Code.compStart e 0 it acc env) = A) ∧ ∀ it acc env, (Code.compLoop e 0 it acc env).quiet = true :=
    ⟨fun A it acc env => (blk_under (A := A) hge).1, fun A it acc env => (blk_under (A := A) hge).2.1, fun it acc env => (blk_under (A := X.A) hge).2.2⟩
  refine wpAny_comprehension_free (use := use) (g := ⟨tg, iter, ifs, 0⟩) (gs := []) hcl hs (closure_ok hfree) ok.kind (fun y hy e => by rw [ok.uniq y hy, e])
    (wpAny_mono (hi.run pins s σ H _ I h) (fun xv s1 hx1 => wpAny_mono hx1 (fun itv s2 h2 => ?_) fun _ _ z => z) fun _ _ z => z)
  obtain ⟨it, J, p, H2, C0, C, ee, hsub, S, c0, I2, q⟩ := h2
  subst ee
  refine hnew I2.inv.bare (newEnv_comp ?_)
  generalize hD : s2.heap.objs.size = D
  have hDn : H2 D = none := I2.inv.hok.fresh (Nat.le_of_eq hD)
  obtain ⟨W, ⟨m0, w0⟩, turn⟩ := q D hDn
  generalize hs3 : ({ s2 with heap := s2.heap.push oAcc } : Shared) = s3
  have h3 : s3.heap = s2.heap.push oAcc := by rw [← hs3]
  have g3 : s3.gens = s2.gens := by rw [← hs3]
  have k3 : ∀ b o, s2.heap.get? b = some o → s3.heap.get? b = some o := fun b o e => by rw [h3]; exact Heap.get?_push_of_some _ e
  have eD : s3.heap.get? D = some oAcc := by rw [h3, ← hD]; exact Heap.get?_push_size _ hfr
  have c3 : C0 p σ (upd H2 D (h0 D)) s3 := by
    have z := S.grow c0 (D := D) (ho := h0 D) (h' := s3.heap) (t' := s2.toks) k3 (Nat.le_of_eq hD) (by rw [h3, Heap.size_push]; exact Nat.le_succ _) (hobj _ _ D (by rw [← hD]; exact I2.inv.big) eD)
    have ez : ({ s2 with heap := s3.heap, toks := s2.toks } : Shared) = s3 := by rw [← hs3]
    rw [ez] at z
    exact z
  have I3 : Inv X p σ (upd H2 D (h0 D)) s3 := S.begun c3
  obtain ⟨ex, hex, bl⟩ := S.blk c3
  have I4 := block_start (fp := []) I3 ok hN (fun b z => absurd z (by simp))
  have pg := hg s3 (upd H2 D (h0 D)) s3.heap.objs.size (cellsFrom (s3.heap.objs.size + 1) scope.names (cloFrom X.env.cells scope.names [])) ex
  have pt := ht s3 (upd H2 D (h0 D)) s3.heap.objs.size (cellsFrom (s3.heap.objs.size + 1) scope.names (cloFrom X.env.cells scope.names [])) ex
  have pem := hem s3 (upd H2 D (h0 D)) s3.heap.objs.size (cellsFrom (s3.heap.objs.size + 1) scope.names (cloFrom X.env.cells scope.names [])) ex D
  have hcells : ∀ x c, (cellsFrom (s3.heap.objs.size + 1) scope.names (cloFrom X.env.cells scope.names [])).lookup x = some c → X.env.cells.lookup x = some c := fun x c e => by
    rw [← Heap.size_push s3.heap { cls := .type "dict", data := .dict #[] }] at e
    rcases cells_mem (PySem.mem_of_lookup e) with hm | ⟨hm, _⟩
    · rcases cloFrom_mem hm with hm | ⟨h1, rfl⟩
      · cases hm
      · obtain ⟨c, hc⟩ := hfree _ h1 rfl
        rw [hc]; rfl
    · exact absurd rfl (hnocell _ hm)
  show codeAny _ _ (.compStart e 0 (.ref it) (.ref D) (compEnvC scope (cellsFrom (s3.heap.objs.size + 1) scope.names (cloFrom X.env.cells scope.names [])) s3.heap.objs.size X.env)) (compPost (Md X.prog X.w) X.A no use Qf (.ref D) s3.heap.objs.size) { s3 with heap := pushCells (s3.heap.push { cls := .type "dict", data := .dict #[] }) scope.names }
  generalize hce : compEnvC scope (cellsFrom (s3.heap.objs.size + 1) scope.names (cloFrom X.env.cells scope.names [])) s3.heap.objs.size X.env = ce at I4 pg pt pem ⊢
  have cL : ce.locals = s3.heap.objs.size := by subst hce; rfl
  have cC : ∀ x c, ce.cells.lookup x = some c → X.env.cells.lookup x = some c := by subst hce; exact hcells
  have k4 : ∀ b o, s3.heap.get? b = some o → (pushCells (s3.heap.push { cls := .type "dict", data := .dict #[] }) scope.names).get? b = some o := fun b o e => pushCells_keeps _ _ _ _ (Heap.get?_push_of_some _ e)
  generalize hs4 : ({ s3 with heap := pushCells (s3.heap.push { cls := .type "dict", data := .dict #[] }) scope.names } : Shared) = s4 at I4 ⊢
  have g4 : s4.gens = s3.gens := by rw [← hs4]
  have kk4 : ∀ b o, s3.heap.get? b = some o → s4.heap.get? b = some o := fun b o e => by rw [← hs4]; exact k4 b o e
  have I5 : Inv (X.blk s3 (upd H2 D (h0 D)) scope ce ex) [] (wipe σ (own.map (·.2))) (upd H2 D (h0 D)) s4 := by
    refine Inv.exMono I4 (fun b z => absurd (show b ∈ ([] : List Addr) from z) (by simp)) fun b hb => ?_
    obtain ⟨e1, e2, e3, e4, e5⟩ := hex b hb
    refine ⟨⟨fun z => ?_, fun x c e => e3 x c (cC x c e)⟩, fun z => ?_, ?_⟩
    · have z' : b = ce.locals := z
      rw [cL] at z'
      exact absurd e5 (by rw [z']; exact Nat.lt_irrefl _)
    · have z' : b ∈ frs X.stack := z
      rcases List.mem_cons.mp (I3.stkSub b z') with w | w
      · exact e2 w
      · rcases e1 with e1 | e1
        · exact I3.ok.exfs b e1 w
        · obtain ⟨_, o2, ho, _⟩ := I3.ok.funs.mem w
          exact absurd (Heap.lt_size ho) (Nat.not_lt.mpr e1)
    · cases q : X.base.get? b with
      | none => rfl
      | some o =>
        rcases e1 with e1 | e1
        · exact absurd e1 (I3.ok.noex b o q)
        · exact absurd (Nat.lt_of_lt_of_le (Heap.lt_size q) (Nat.le_trans I3.ok.bsz e1)) (Nat.lt_irrefl _)
  have c5 := bl I5 kk4 g4 (Nat.le_of_eq cL.symm) cC
  have kin : Kin X (X.blk s3 (upd H2 D (h0 D)) scope ce ex) := ⟨rfl, rfl, rfl, rfl, rfl, rfl, rfl, rfl⟩
  have hxb : Nox (X.blk s3 (upd H2 D (h0 D)) scope ce ex) := fun _ _ z => z
  -- back in the def
  have fin : ∀ {p6 : Pl} {H6 : Hp} {s6 : Shared}, In1 (X.blk s3 (upd H2 D (h0 D)) scope ce ex) p6 (wipe σ (own.map (·.2))) H6 s6 → Sub p p6 → Q (.ref D) H6 → compPost (Md X.prog X.w) X.A no use Qf (.ref D) s3.heap.objs.size (.ok .next) s6 := fun {p6 H6 s6} J hp6 qq => by
    have I7 : Inv X p σ H6 s6 := I3.call' (ch := ex) J.inv.os J.inv.base J.inv.hok J.inv.bare fun b hb => ⟨(hex b hb).1, (hex b hb).2.1, (hex b hb).2.2.1, (hex b hb).2.2.2.1⟩
    have nC : H6 s3.heap.objs.size = none := by
      have z : H6 ce.locals = none := J.inv.free
      rw [cL] at z
      exact z
    obtain ⟨m, hn, _⟩ := J.inv.loc
    have hn : s6.heap.Ns ce.locals m := hn
    rw [cL] at hn
    have fC := I3.fpOk (Nat.le_refl _) nC
    have pfil : ∀ q ∈ p6.filter (fun q => Gk.isG q.2), s6.heap.get? q.1 = some q.2 ∧ H6 q.1 = none ∧ q.1 ≠ X.env.locals ∧ q.1 ∉ X.fs ∧ (∀ v, q.2.data ≠ .cell v) ∧ q.1 ≠ s3.heap.objs.size := fun q hq => by
      obtain ⟨hm, hg⟩ := List.mem_filter.mp hq
      have z := J.inv.pin q (List.mem_append_right _ hm)
      have data : ∃ vs, q.2.data = .fields vs := by
        have hg' : Gk.isG q.2 = true := hg
        unfold Gk.isG Obj.genNumber? at hg'
        cases d : q.2.data with
        | fields vs => exact ⟨vs, rfl⟩
        | _ => rw [d] at hg'; simp at hg'
      obtain ⟨vs, hd⟩ := data
      have ne : q.1 ≠ s3.heap.objs.size := by rw [← cL]; exact z.2.2.1
      refine ⟨z.1, z.2.1, fun w => ?_, fun w => ?_, (fun v d => by rw [hd] at d; cases d), ne⟩
      · obtain ⟨m2, ⟨o2, es, ep, e3, d3, _⟩, _⟩ := I7.loc
        have e4 : s6.heap.get? X.env.locals = some o2 := e3
        rw [← w, z.1] at e4
        cases e4
        rw [hd] at d3; cases d3
      · refine z.2.2.2.1 ?_
        show q.1 ∈ frs X.stack
        rcases I3.ok.stk with e | ⟨e, hf⟩
        · rw [e]; exact w
        · rw [e]
          unfold frs
          rw [List.filterMap_cons, hf]
          exact List.mem_cons_of_mem _ w
    refine hRR D (p ++ p6.filter (fun q => Gk.isG q.2)) H6 s6 s3.heap.objs.size m (fun q hq => List.mem_append_left _ (hsub q hq)) ⟨I7.pins_of fun q hq => ?_, fun i k a c pp fs cl e => ?_⟩ qq hn ⟨fC.1, fC.2.1, fC.2.2.1, fC.2.2.2.1, fC.2.2.2.2.1, fun q hq => ?_⟩
    · rcases List.mem_append.mp hq with hq | hq
      · exact I7.pin q (List.mem_append_right _ hq)
      · have z := pfil q hq
        exact ⟨z.1, z.2.1, z.2.2.1, z.2.2.2.1, z.2.2.2.2.1⟩
    · obtain ⟨o, hm, hg⟩ := J.told i k a c pp fs cl e
      exact ⟨o, List.mem_append_right _ (List.mem_filter.mpr ⟨hm, hg⟩), hg⟩
    · rcases List.mem_append.mp hq with hq | hq
      · exact fC.2.2.2.2.2 q (List.mem_append_left _ hq)
      · rcases List.mem_append.mp hq with hq | hq
        · exact fC.2.2.2.2.2 q (List.mem_append_right _ hq)
        · exact (pfil q hq).2.2.2.2.2
  have loop : codeAny (Md X.prog X.w) X.A (.compLoop e 0 (.ref it) (.ref D) ce) (compPost (Md X.prog X.w) X.A no use Qf (.ref D) s3.heap.objs.size) s4 := by
    refine md_compLoop hge he (hq _ _ _) (fun n s' => ∃ i p' H', Sub p p' ∧ C (X.blk s3 (upd H2 D (h0 D)) scope ce ex) p' i (wipe σ (own.map (·.2))) H' s' ∧ W i n H') ?_ m0 ⟨0, p, upd H2 D (h0 D), .refl _, c5, w0⟩ (hu1 _ _ _ _)
    rintro n s5 ⟨i, p5, H5, hp5, c5, w5⟩
    rcases turn i n H5 w5 with ⟨stop, qq⟩ | ⟨go, Nx, hNx, step⟩
    · refine wpAny_mono (S.done kin c5 stop) (fun r s6 ⟨hr, p6, H6, h6, I6, x6⟩ => ?_) fun _ _ z => z
      subst hr
      exact fin I6 (hp5.trans h6) (qq H6 x6)
    · refine wpAny_mono (S.next kin c5 go) (fun r s6 ⟨u, hr, h6⟩ => ?_) fun _ _ z => z
      subst hr
      refine wpAny_mono h6 (fun _ s7 ⟨x, H7, c7, r7, y7⟩ => ?_) fun _ _ z => z
      obtain ⟨fp, I7, back⟩ := S.hold c7
      refine wpAny_mono (in1_pg hxb I7 pg r7 (step x H7 y7)) (fun _ s8 ⟨as8, σ8, H8, I8, hw8, q8⟩ => ?_) fun _ _ z => z
      refine wpAny_mono (in1_pts hxb I8 pt q8) (fun b s9 ⟨as9, H9, I9, q9⟩ => ?_) fun _ _ z => z
      have again : ∀ {s' : Shared} {H' : Hp} {p' : Pl}, In1 (X.blk s3 (upd H2 D (h0 D)) scope ce ex) p' σ8 H' s' → Sub (fp ++ p5) p' → Asleep s7 s' → Nx H' → ∃ m, m < n ∧ ∃ i p' H', Sub p p' ∧ C (X.blk s3 (upd H2 D (h0 D)) scope ce ex) p' i (wipe σ (own.map (·.2))) H' s' ∧ W i m H' := fun {s' H' p'} I' hs' as' nx => by
        obtain ⟨okj, m', hm, w'⟩ := hNx H' nx
        have hl : (wipe σ (own.map (·.2))).length = σ8.length := by rw [← hw8, wipe_length]
        have I'' : In1 (X.blk s3 (upd H2 D (h0 D)) scope ce ex) p' (wipe σ (own.map (·.2))) H' s' := ⟨I'.inv.weak hl fun j v e => by rw [← hw8] at e; exact (wipe_some e).1, I'.told⟩
        obtain ⟨p8, h8, c8⟩ := back I'' hs' as' okj
        exact ⟨m', hm, i + 1, p8, H', hp5.trans h8, c8, w'⟩
      cases b with
      | false =>
        rw [if_neg Bool.false_ne_true] at q9 ⊢
        exact again I9 (.refl _) (as8.trans as9) q9
      | true =>
        rw [if_pos rfl] at q9 ⊢
        refine wpAny_mono (pem.asleep I9 q9) (fun _ s10 ⟨as10, p10, H10, h10, I10, nx⟩ => ?_) fun _ _ z => z
        exact again I10 h10 ((as8.trans as9).trans as10) nx
  exact md_compStart hge (hq _ _ _) (hu2 _ _ _ _) hcl loop fun Q2 hq2 => S.self c3 g4 kk4 hq2
theorem In1.drop {pins : Pl} {σ : L2.St} {H : Hp} {s : Shared} {h' : Heap} {C : Addr} (I : In1 X pins σ H s) (f : FpOk X pins H C) (sb : Heap.SameBut C s.heap h') : In1 X pins σ H { s with heap := h' } :=
  ⟨I.inv.turned (t' := s.toks) (fun b o hb e => (sb.2 b hb).trans e) f.1 f.2.1 f.2.2.2.1 f.2.2.2.2.1 f.2.2.2.2.2, I.told⟩
/-- name = [..] on one line, the name a local -/
theorem ps_setLc1 {i : Nat} {y : Str} {py : Pos} {elt tg iter : Expr} {ifs : List Expr} {scope : Scope} {own : List (Str × Nat)} {pos spos : Pos} {wi : TI1} {g : TG} {tt : TT} {te : TE} (hx : Nox X) (hN : X.N.Nodup) (hy : X.N[i]? = some y) (hyl : X.env.scope.names.lookup y = some .local)
    (hsw : swapsWith (.ListComp elt [⟨tg, iter, ifs, 0⟩] scope pos) (some (.Name y py)) spos.line X.env = pure true) (hi : PI1 X tg iter wi) (ok : BlkOk X.N X.env.scope scope own) (hnocell : ∀ y ∈ scope.names, y.2 ≠ .cell)
    (hg : ∀ (s : Shared) (H : Hp) (C : Addr) (cl : List (Str × Addr)) (fp : List Addr), PG (X.blk s H scope (compEnvC scope cl C X.env) fp) tg g) (ht : ∀ (s : Shared) (H : Hp) (C : Addr) (cl : List (Str × Addr)) (fp : List Addr), PTs (X.blk s H scope (compEnvC scope cl C X.env) fp) ifs tt)
    (he : ∀ (s : Shared) (H : Hp) (C : Addr) (cl : List (Str × Addr)) (fp : List Addr), PE1 (X.blk s H scope (compEnvC scope cl C X.env) fp) elt te) (hs : ∀ x, foldedSetIterable iter X.env x = pure x := by intro _; rfl) :
    PS1 X (.Assign [.Name y py] (.ListComp elt [⟨tg, iter, ifs, 0⟩] scope pos) spos) (tAsg (tLc1 wi g tt te (own.map (·.2))) (gName i)) := by
  refine ⟨fun pins s σ H D I h => ?_⟩
  rw [exec_Assign_Name_used _ _ _ _ hsw]
  refine wpAny_bind (wpAny_standAt (wpAny_bind ?_))
  show wpAny _ X.A (do let _ ← comprehension (.ListComp elt [⟨tg, iter, ifs, 0⟩] scope pos) scope X.env (firstIterPos [⟨tg, iter, ifs, 0⟩] pos) (newList []) false (eval iter X.env) (some (assign (.Name y py) X.env))) _ _ s
  have h : tCm wi g tt (fun D σ H Q => te σ H fun y H4 => ∃ acc, H4 D = some (.lst acc) ∧ acc.length < sizeLine ∧ Q (upd H4 D (.lst (acc ++ [y])))) (fun _ => .lst []) (own.map (·.2)) σ H (fun x H1 => gName i x σ H1 D.nx) := h
  refine wpAny_bind (mo (comp1u (Q := fun x H1 => gName i x σ H1 D.nx) (Qf := fun _ s' => SP1 X pins D .next s') (emit := fun acc env => do let _ ← call (.builtin "list.append") [acc, ← eval elt env]) (h0 := fun _ => .lst []) (oAcc := { cls := .type "list", data := .seq ([] : List Value).toArray }) hx hN hi ok hnocell rfl (turnq_list elt tg iter ifs scope pos) (by intro _ _ _ _ z; cases z) (fun {A s Q} _ q => wpAny_newObj_type q (by show 0 ≤ sizeLine; decide)) (fun H h D _ e => ⟨Nat.zero_le _, [], 0, .nil, e⟩) rfl hg ht (fun s H C cl fp D => pem_list (fun _ _ z => z) (he s H C cl fp)) hs I h fun L pF H6 s6 C m hsub I6 q hn f => ?_) fun _ s' hq => wpAny_pure (wpAny_pure hq))
  show wpAny _ _ (assign (.Name y py) X.env (.ref L)) _ _ _
  refine mo (in1_stepH (A := X.A) (R := fun _ σ' H' h' => σ' = σ.set i (some (.ref L)) ∧ H' = H6 ∧ ∃ a, Heap.SameBut a s6.heap h' ∧ (a = X.env.locals ∨ X.env.cells.lookup y = some a)) I6 (wpAny_assign_Name (store_ok2 (s := lulled s6) (v := V.ref L) (Inv.lulled I6.inv) hN hy (.inl hyl) rfl (fun s2 I2 hsa => ⟨_, H6, I2, rfl, rfl, hsa⟩) (.inr hyl)))) fun _ s7 ⟨_, σ7, H7, I7, e1, e2, a, sb, ha⟩ => ?_
  subst e1 e2
  have haC : C ≠ a := by
    rcases ha with z | z
    · rw [z]; exact f.2.1
    · exact fun e => f.2.2.2.2.1 y a z e.symm
  refine ⟨m, hn.sameBut sb haC, fun h3 sb3 => ?_⟩
  exact ⟨pF, _, H7, hsub, I7.drop f sb3, q⟩
end
end Gk
/-! Where the m-th item of an owner lies. -/
namespace Pt
open PySem

theorem tally_mono (a : Nat → Str) (n : Str) (x : Nat) : ∀ k, tally a n x ≤ tally a n (x + k)
  | 0 => Nat.le_refl _
  | k + 1 => Nat.le_trans (tally_mono a n x k) (by rw [← Nat.add_assoc, tally]; exact Nat.le_add_right _ _)
theorem tally_le (a : Nat → Str) (n : Str) {x y : Nat} (h : x ≤ y) : tally a n x ≤ tally a n y := by
  have := tally_mono a n x (y - x)
  rwa [show x + (y - x) = y by omega] at this
/-- the place of n's m-th item -/
def At (a : Nat → Str) (n : Str) (m x : Nat) : Prop := a x = n ∧ tally a n x = m
theorem At.gt {a : Nat → Str} {n : Str} {m x : Nat} (h : At a n m x) (y : Nat) : m < tally a n (y + 1) ↔ x ≤ y := by
  obtain ⟨h1, h2⟩ := h
  constructor
  · intro q
    by_cases z : x ≤ y
    · exact z
    · have := tally_le a n (show y + 1 ≤ x by omega)
      omega
  · intro q
    have := tally_le a n (show x + 1 ≤ y + 1 by omega)
    rw [tally, if_pos h1, h2] at this
    omega
/-- the spots within a window -/
def spots (a : Nat → Str) (n : Str) (z len : Nat) : List Nat := (List.range len).filter fun k => decide (a (z + k) = n)
theorem spots_succ (a : Nat → Str) (n : Str) (z len : Nat) : spots a n z (len + 1) = spots a n z len ++ if a (z + len) = n then [len] else [] := by
  unfold spots
  rw [List.range_succ, List.filter_append]
  by_cases h : a (z + len) = n <;> simp [h]
theorem spots_len (a : Nat → Str) (n : Str) (z : Nat) : ∀ len, tally a n (z + len) = tally a n z + (spots a n z len).length
  | 0 => by simp [spots]
  | len + 1 => by
    rw [spots_succ, ← Nat.add_assoc, tally, spots_len a n z len, List.length_append]
    by_cases h : a (z + len) = n <;> simp [h]
    omega
theorem spots_at (a : Nat → Str) (n : Str) (z : Nat) : ∀ (len j s : Nat), (spots a n z len)[j]? = some s → s < len ∧ At a n (tally a n z + j) (z + s)
  | 0, j, s, h => by simp [spots] at h
  | len + 1, j, s, h => by
    rw [spots_succ] at h
    by_cases hj : j < (spots a n z len).length
    · rw [List.getElem?_append_left hj] at h
      obtain ⟨h1, h2⟩ := spots_at a n z len j s h
      exact ⟨by omega, h2⟩
    · rw [List.getElem?_append_right (by omega)] at h
      by_cases hp : a (z + len) = n
      · rw [if_pos hp] at h
        have hj0 : j - (spots a n z len).length = 0 := by
          by_cases q : j - (spots a n z len).length = 0
          · exact q
          · rw [List.getElem?_eq_none (by simp; omega)] at h; cases h
        rw [hj0] at h
        have e : len = s := by simpa using h
        subst e
        refine ⟨by omega, hp, ?_⟩
        rw [spots_len a n z len]
        omega
      · rw [if_neg hp] at h
        simp at h
theorem one_le_cnts (n : Str) (e : End) (x : Nat) : ∀ (l : List End), e ∈ l → cntE n e x ≤ cnts n l x
  | [], h => by cases h
  | f :: l, h => by
    rw [cnts]
    rcases List.mem_cons.mp h with rfl | h
    · exact Nat.le_add_right _ _
    · exact Nat.le_trans (one_le_cnts n e x l h) (Nat.le_add_left _ _)
/-- the first row bounds the search -/
theorem At.high {t : Tr} (h : t.ok) {n : Str} {m x : Nat} (ha : At t.own n m x) {e : End} (he : e ∈ t.ends 0 1) (hn : e.2.2 = n) : x ≤ e.1 + e.2.1 * m := by
  rw [← ha.gt, ← cnts_tally n t h]
  have hp := ends_pos t 0 1 (by decide) h e he
  refine Nat.lt_of_lt_of_le ?_ (one_le_cnts n e _ _ he)
  unfold cntE
  rw [if_pos ⟨hn, by omega⟩, show e.1 + e.2.1 * m + 1 - e.1 - 1 = e.2.1 * m by omega, Nat.mul_div_cancel_left _ hp]
  omega
end Pt
/-! place. -/
namespace Tn
open PySem PySem.Spec PyProof.Rows L2 Gk
abbrev sPlace : Stmt := top 24
abbrev nPlace : List Str := ["tree", "owner", "number", "first", "step", "rows", "low", "high", "middle", "other"]
theorem scPlace : FnScope nPlace ["tree", "owner", "number"] (defScope sPlace) := ⟨rfl, rfl, rfl, by decide +kernel, rfl, by decide +kernel, by decide +kernel⟩
def RowAt (H : Hp) (v : V) (e : Pt.End) : Prop := ∃ a, v = .ref a ∧ H a = some (.tup [.int e.1, .int e.2.1])
inductive RowsAt (H : Hp) : List V → List Pt.End → Prop
  | nil : RowsAt H [] []
  | cons {v e vs es} : RowAt H v e → RowsAt H vs es → RowsAt H (v :: vs) (e :: es)
theorem RowsAt.up {H H' : Hp} (x : ExtU H H') {vs : List V} {es : List Pt.End} (h : RowsAt H vs es) : RowsAt H' vs es := by
  induction h with
  | nil => exact .nil
  | cons h _ ih =>
    obtain ⟨a, rfl, ha⟩ := h
    exact .cons ⟨a, rfl, x a _ ha⟩ ih
theorem RowsAt.snoc {H : Hp} {vs : List V} {es : List Pt.End} {v : V} {e : Pt.End} (h : RowsAt H vs es) (k : RowAt H v e) : RowsAt H (vs ++ [v]) (es ++ [e]) := by
  induction h with
  | nil => exact .cons k .nil
  | cons h _ ih => exact .cons h ih
theorem RowsAt.len {H : Hp} {vs : List V} {es : List Pt.End} (h : RowsAt H vs es) : vs.length = es.length := by
  induction h with
  | nil => rfl
  | cons h _ ih => rw [List.length_cons, List.length_cons, ih]
theorem RowsAt.dp {K : PySem.W.Frag} {H : Hp} {vs : List V} {es : List Pt.End} (h : RowsAt H vs es) : DpAll K H vs (es.map fun e => PyData.tuple [.int e.1, .int e.2.1]) := by
  induction h with
  | nil => exact .nil
  | cons h _ ih =>
    obtain ⟨a, rfl, ha⟩ := h
    exact .cons (.tup (Evl.st_of ha) (.cons (.int _) (.cons (.int _) .nil))) ih
theorem rows_shaped (es : List Pt.End) : SeqAt.shaped (.list (es.map fun e => PyData.tuple [.int e.1, .int e.2.1])) = true := by
  have h1 : ∀ es : List Pt.End, PyData.canLayAll0 (es.map fun e => PyData.tuple [.int e.1, .int e.2.1]) = true := fun es => by
    induction es with
    | nil => rfl
    | cons e es ih => rw [List.map_cons, PyData.canLayAll0, ih]; rfl
  have h2 : ∀ es : List Pt.End, PyData.depthAll (es.map fun e => PyData.tuple [.int e.1, .int e.2.1]) ≤ 1 := fun es => by
    induction es with
    | nil => exact Nat.zero_le _
    | cons e es ih => rw [List.map_cons, PyData.depthAll]; exact Nat.max_le.mpr ⟨Nat.le_refl _, ih⟩
  unfold SeqAt.shaped
  rw [PyData.canLay0, h1, Bool.true_and]
  refine decide_eq_true ?_
  rw [PyData.depth]
  have := h2 es
  omega
def spPlace : Sp := fun vs H Q _ => ∃ (v : V) (t : Pt.Tr) (n : Str) (m x : Nat), vs = [v, .str n, .int m] ∧ TrAt H v t ∧ t.fit 2 ∧ Pt.At t.own n m x ∧ ∀ H', Evl.Ex H H' → Q (.int x) H'
section
variable {P : Program} {w : World} {K : PySem.W.Frag} {mg : Str → Option Value} {base : Heap} {f fEnds fCount : Addr} {fd fdEnds fdCount : FuncData}
theorem ok_place (F : FnP K "place" sPlace f fd) (FCount : FnP K "count" sCount fCount fdCount) (FEnds : FnPD K "ends" sEnds [.int 0, .int 1] fEnds fdEnds) (gLen : mg "len" = none) (gIsi : mg "isinstance" = none) (gStr : mg "str" = none) (gEnum : mg "enumerate" = none) (gEnds : mg "ends" = some (.ref fEnds)) (gCount : mg "count" = some (.ref fCount)) :
    FnMd P w K mg base 9 f fd ["tree", "owner", "number"] spPlace := by
  have GEnds : GFn1 P w K mg base 7 fEnds fdEnds psEnds (spEnds 2) := ok_ends FEnds gLen gIsi gStr gEnum gEnds 2
  obtain ⟨ds, rds, bEnds⟩ := ends_b1 FEnds
  have GCount : FnMd P w K mg base 8 fCount fdCount ["tree", "owner", "items"] spCount := ok_count FCount FEnds gLen gIsi gStr gEnum gEnds
  have bCount : L2.Binds K fdCount ["tree", "owner", "items"] [] := FCount.bindsN fun _ _ _ _ _ _ us hl => match us, hl with | [_, _, _], _ => rfl
  refine fn_mdD F scPlace (fun vs H Q E h => ?_) (fun cdv A outer s H vs Q hr h => ⟨_, (pss_cons1 (ps_setLc1 (i := 5) (own := [("first", 3), ("step", 4), ("other", 9)]) (g := (gTup K 3 (gCons (gName 3) (gCons (gName 4) (gCons (gName 9) gNil))))) (fun _ _ z => z) scPlace.nd rfl rfl (sw_true rfl rfl rfl (by decide +kernel)) (pi_gen1 (hr.mono (by decide)) rfl (pgen_call1 GEnds (hr.mono (by decide)) rfl gEnds FEnds.kp bEnds rds (PA.up (fun _ _ z => z) (pa_cons (pv 0) pa_nil)))) (blkOk_by (N := nPlace) (sc := defScope sPlace) (by decide +kernel)) (by decide +kernel) (fun _ _ _ _ _ => (pg_tup rfl (pgs_cons (pg_name (i := 3) scPlace.nd rfl (Or.inl rfl)) (pgs_cons (pg_name (i := 4) scPlace.nd rfl (Or.inl rfl)) (pgs_cons (pg_name (i := 9) scPlace.nd rfl (Or.inl rfl)) pgs_nil))))) (fun _ _ _ _ _ => (pts_one (pt_cmpR op_eq (pv 9) (pv 1) (nomark _)))) (fun _ _ _ _ _ => (PE.up (fun _ _ z => z) (pe_tup (pa_cons (pv 3) (pa_cons (pv 4) pa_nil))))))
        (pss_cons1 (PS.up (fun _ _ z => z) (ps_if (pt_cmpR (op_eqD hr.units) (pv 5) (pe_lst pa_nil) (nomark _))
        (pss_one ps_never)
        pss_nil))
        (pss_cons1 (PS.up (fun _ _ z => z) (ps_if (pt_cmpR op_lt (pv 2) pe_int (nomark _))
        (pss_one ps_never)
        pss_nil))
        (pss_cons1 (PS.up (fun _ _ z => z) (ps_asg (pe_ix ix_list (pv 5) pe_int fun _ _ => rfl) (pg_tup rfl (pgs_cons (pg_name (i := 3) scPlace.nd rfl (Or.inl rfl)) (pgs_cons (pg_name (i := 4) scPlace.nd rfl (Or.inl rfl)) pgs_nil)))))
        (pss_cons1 (PS.up (fun _ _ z => z) (ps_par (i := 6) (j := 7) rfl scPlace.nd rfl rfl (by decide) rfl rfl (pa_cons pe_int (pa_cons (pe_op op_add (pv 3) (pe_op op_mul (pv 4) (pv 2))) pa_nil)) (by rfl)))
        (pss_cons1 (ps_while1 (PT.up (fun _ _ z => z) (pt_cmpR op_lt (pv 6) (pv 7) (nomark _))) (pss_cons1 (PS.up (fun _ _ z => z) (ps_set (i := 8) scPlace.nd rfl (Or.inl rfl) (pe_op op_fdiv (pe_op op_add (pv 6) (pv 7)) pe_int)))
        (pss_one1 (ps_if1 (pt_cmp1 (fun _ _ z => z) op_gt (pe_call1 GCount hr rfl gCount FCount.kp bCount .nil (PA.up (fun _ _ z => z) (pa_cons (pv 0) (pa_cons (pv 1) (pa_cons (pe_op op_add (pv 8) pe_int) pa_nil))))) (PE.up (fun _ _ z => z) (pv 2)) (nomark _))
        (PSs.up (fun _ _ z => z) (pss_one (ps_set (i := 7) scPlace.nd rfl (Or.inl rfl) (pv 8))))
        (PSs.up (fun _ _ z => z) (pss_one (ps_set (i := 6) scPlace.nd rfl (Or.inl rfl) (pe_op op_add (pv 8) pe_int))))))))
        (pss_one1 (ps_ret1 (PE.up (fun _ _ z => z) (pv 6)))))))))), ?_⟩)
  · obtain ⟨v, t, n, m, x, rfl, _⟩ := h
    rfl
  · obtain ⟨v, t, n, m, x, rfl, hT, hf, hAt, hQ⟩ := h
    have hc := Pt.ends_count t 2 0 1 hf
    refine ⟨_, rfl, _, _, ⟨v, t, 0, 1, H, rfl, rfl, ExtU.refl H, hT, hf, by decide, by decide, rfl⟩, fun D hD => ?_⟩
    refine comp_ends (fun i H' => Evl.Ex H H' ∧ ∃ vs : List V, H' D = some (.lst vs) ∧ vs.length ≤ i ∧ RowsAt H' vs (((t.ends 0 1).take i).filter fun e => decide (e.2.2 = n))) ?_ ?_ ?_ ?_ ?_
    · rintro i H1 H2 xx ⟨x1, vs, h1, h2, h3⟩
      exact ⟨x1.trans xx, vs, xx _ _ h1, h2, h3.up (.of xx)⟩
    · rintro i H1 ⟨x1, _⟩
      exact .of x1
    · exact ⟨Evl.Ex.new hD, [], upd_same, Nat.le_refl _, .nil⟩
    · rintro i e a H1 he ⟨x1, vs, h1, h2, h3⟩ ha
      have hi := (List.getElem?_eq_some_iff.mp he).1
      refine ⟨a, _, rfl, Evl.st_of ha, rfl, _, _, rfl, _, _, rfl, _, _, rfl, rfl, rfl, _, rfl, _, rfl, rfl, _, rfl, ite2 (fun hh => ?_) fun hh => ?_⟩
      · have h' : e.2.2 = n := by
          have := of_decide_eq_true hh
          injection this
        refine ⟨_, rfl, _, rfl, by show 2 ≤ sizeLine; decide, fun p hp => ⟨vs, ?_, Evl.sz_lt (by omega), ?_⟩⟩
        · rw [upd_ne (ne_of_none h1 hp)]; exact h1
        · have hDp : (upd H1 p (.tup [V.int e.1, V.int e.2.1])) D = some (.lst vs) := by rw [upd_ne (ne_of_none h1 hp)]; exact h1
          refine ⟨(x1.trans (Evl.Ex.new hp)).mut hD, vs ++ [.ref p], upd_same, by rw [List.length_append]; show _ + 1 ≤ _; omega, ?_⟩
          rw [List.take_succ, he, List.filter_append]
          show RowsAt _ _ (_ ++ List.filter _ [e])
          rw [List.filter_cons, if_pos (decide_eq_true h'), List.filter_nil]
          refine ((h3.up (ExtU.new hp)).snoc ⟨p, rfl, upd_same⟩).up (ExtU.lst hDp)
      · have h' : ¬ e.2.2 = n := fun z => hh (decide_eq_true (congrArg V.str z))
        refine ⟨x1, vs, h1, by omega, ?_⟩
        rw [List.take_succ, he, List.filter_append]
        show RowsAt _ _ (_ ++ List.filter _ [e])
        rw [List.filter_cons, if_neg (by rw [decide_eq_false h']; decide), List.filter_nil, List.append_nil]
        exact h3
    rintro H1 ⟨x1, vs, hv, hvl, hR⟩
    rw [List.take_length] at hR
    obtain ⟨e0, he0, hn0, _⟩ := Pt.end_of t hf.ok x
    have hne0 : e0 ∈ (t.ends 0 1).filter fun e => decide (e.2.2 = n) := List.mem_filter.mpr ⟨he0, decide_eq_true (by rw [hn0]; exact hAt.1)⟩
    have hall : ∀ e ∈ (t.ends 0 1).filter (fun e => decide (e.2.2 = n)), e ∈ t.ends 0 1 ∧ e.2.2 = n := fun e he => ⟨(List.mem_filter.mp he).1, of_decide_eq_true (List.mem_filter.mp he).2⟩
    generalize (t.ends 0 1).filter (fun e => decide (e.2.2 = n)) = rows at hR hne0 hall
    refine ⟨_, rfl, by show 0 ≤ sizeLine; decide, fun q hq => ⟨_, _, .lst (Evl.sq_of (Evl.Ex.new hq _ _ hv)) ((hR.up (ExtU.new hq)).dp), .lst (Evl.sq_of upd_same) .nil, rows_shaped rows, by rfl, _, rfl, ?_⟩⟩
    cases hR with
    | nil => cases hne0
    | @cons v0 e1 vs' rows' hr0 hR' =>
    rw [List.map_cons, PyData.eqv, PyData.eqvAll]
    refine iteF ?_
    obtain ⟨he1, hn1⟩ := hall e1 List.mem_cons_self
    have hhigh := hAt.high hf.ok he1 hn1
    have hle1 := Pt.ends_le t 2 0 1 hf e1 he1
    have x2 : Evl.Ex H (upd H1 q (.lst [])) := x1.trans (Evl.Ex.new hq)
    have hv2 : (upd H1 q (.lst [])) D = some (.lst (v0 :: vs')) := Evl.Ex.new hq _ _ hv
    obtain ⟨a1, rfl, ha1⟩ := hr0
    have ha2 : (upd H1 q (.lst [])) a1 = some (.tup [.int e1.1, .int e1.2.1]) := Evl.Ex.new hq _ _ ha1
    refine ⟨_, rfl, _, _, rfl, rfl, _, rfl, ite2 (fun h => absurd (of_decide_eq_true h) (by omega)) fun _ => ?_⟩
    refine ⟨_, rfl, D, _, 0, _, rfl, rfl, Evl.sq_of hv2, (show atI (V.ref a1 :: vs') ((0 : Nat) : Int) = some (V.ref a1) from atI_nat rfl), a1, _, rfl, Evl.st_of ha2, rfl, _, _, rfl, _, _, rfl, rfl, ?_⟩
    refine ⟨_, rfl, _, rfl, _, rfl, _, _, rfl, rfl, .inl ⟨?_, ?_⟩, _, _, rfl, rfl, _, _, rfl, ?_⟩
    · show -(2 ^ 64 : Int) < (e1.2.1 : Int); omega
    · show (e1.2.1 : Int) < 2 ^ 64; omega
    refine ⟨fun k σ H' => Evl.Ex H H' ∧ ∃ (lo hi : Nat) (c : Option V), k = hi - lo ∧ lo ≤ x ∧ x ≤ hi ∧ σ = [some v, some (.str n), some (.int m), some (.int e1.1), some (.int e1.2.1), some (.ref D), some (.int lo), some (.int hi), c, none], ⟨_, x2, 0, e1.1 + e1.2.1 * m, none, rfl, Nat.zero_le _, hhigh, rfl⟩, ?_⟩
    rintro k σ H3 ⟨x3, lo, hi, c, rfl, hlo, hhi, rfl⟩
    refine ⟨_, rfl, _, rfl, _, _, rfl, rfl, _, rfl, ite2 (fun h => ?_) fun h => ?_⟩
    · have hlt : lo < hi := by
        have := of_decide_eq_true h
        omega
      refine ⟨_, fun σ' H' q => q, ?_⟩
      refine ⟨_, rfl, _, rfl, _, _, rfl, rfl, _, _, rfl, rfl, ⟨by decide, by decide⟩, ?_⟩
      have emid : ((lo : Int) + (hi : Int)) / 2 = (((lo + hi) / 2 : Nat) : Int) := rfl
      refine ⟨_, rfl, _, rfl, _, rfl, _, _, rfl, rfl, v, t, n, (lo + hi) / 2 + 1, rfl, TrAt.up (.of x3) _ _ hT, hf, fun H4 x4 => ⟨_, rfl, _, _, rfl, rfl, _, rfl, ?_⟩⟩
      rw [Pt.cnts_tally n t hf.ok]
      have hgt := hAt.gt ((lo + hi) / 2)
      have hmid : lo ≤ (lo + hi) / 2 ∧ (lo + hi) / 2 < hi := by omega
      refine ite2 (fun h1 => ?_) fun h1 => ?_
      · have h1' : x ≤ (lo + hi) / 2 := hgt.mp (by have := of_decide_eq_true h1; omega)
        exact ⟨_, rfl, (lo + hi) / 2 - lo, by omega, x3.trans x4, lo, (lo + hi) / 2, some (.int ((lo + hi) / 2 : Nat)), rfl, hlo, h1', rfl⟩
      · have h1' : (lo + hi) / 2 < x := by
          have : ¬ x ≤ (lo + hi) / 2 := fun z => h1 (decide_eq_true (by have := hgt.mpr z; omega))
          omega
        exact ⟨_, rfl, _, _, rfl, rfl, hi - ((lo + hi) / 2 + 1), by omega, x3.trans x4, (lo + hi) / 2 + 1, hi, some (.int ((lo + hi) / 2 : Nat)), rfl, h1', hhi, rfl⟩
    · have hge : ¬ lo < hi := fun z => h (decide_eq_true (by omega))
      have : lo = x := by omega
      subst this
      exact ⟨_, rfl, hQ H3 x3⟩
end
end Tn
/-! Stores to a property; methods of the marked machine with arguments. -/
namespace Gk
open PySem PySem.Spec PyProof.Rows L2
open Sem (wp)
/-- the class has the name as a property at p whose setter is the def at g -/
structure PropSet (K : PySem.W.Frag) (C : Addr) (f : Str) (p g : Addr) : Prop where
  tak : PySem.W.takerIn K C f = some (some (.ref p))
  ty : PySem.W.typeIn K (.ref p) = some (.type "property")
  rec_ : ∃ a rest, PySem.W.recIn K p "property" = some (a :: .ref g :: rest)
def sProp (K : PySem.W.Frag) (p g : Addr) (sp : Sp) (ta tv : TE) (f : Str) : TS := fun D σ H => tv σ H fun y H1 => ta σ H1 fun x H2 => ∃ a C dx fs, x = .ref a ∧ H2 a = some (.ins C dx fs) ∧ Cls K C ∧ PropSet K C f p g ∧ sp [.ref a, y] H2 (fun _ H3 => D.nx σ H3) E0
section
variable {X : Cx} {k : Nat} {C p g a dx : Addr} {fs : List (Str × V)} {f : Str} {fd : FuncData} {ps : List Str} {sp : Sp} {o e value : Expr} {pos pos' : Pos} {ta tv te : TE}
theorem setprop_ok {pins : Pl} {σ : L2.St} {H : Hp} {s : Shared} {y : V} {u : Value} {Q : VK} (I : Inv X pins σ H s) (ea : H a = some (.ins C dx fs)) (c : Cls X.K C) (hp : PropSet X.K C f p g)
    (F : FnOk X.prog X.w X.K X.mg X.base CX0 k g fd ps sp) (hr : Room (k + 4) X.A) (hb : Binds X.K fd ps []) (ry : RelV y u) (h : sp [.ref a, y] H Q E0) :
    wpAny (model X.prog X.w) X.A (setAttr (.ref a) f u) (fun _ s' => ∃ v H', Inv X pins σ H' s' ∧ Q v H') no s := by
  obtain ⟨mA, O, _, _, _, _⟩ := ins_get I.hok ea
  obtain ⟨od, J, _⟩ := O.look
  obtain ⟨b, rest, hrec⟩ := hp.rec_
  have I1 := I.tok (s.toks + 1)
  refine PySem.W.set_plain I.kIn J c.sa (PySem.W.osa_descr (s := { s with toks := s.toks + 1 }) PySem.W.KF.slot_pset I.kIn J c.po hp.tak hp.ty (PySem.W.prop_set (s := { s with toks := s.toks + 1 }) I.kIn hrec ?_))
  have hl : [Value.ref a, u].length = ps.length := by rw [← F.len _ _ _ _ h]; rfl
  have hr2 : Room k X.A.in1.in1 := (Room.in1 (Room.in1 (hr.mono (by omega) : Room (k + 2) X.A)))
  refine codeAny_mono (F.run X.A.in1.in1 X.stack { s with toks := s.toks + 1 } H ⟨[.ref a, u], []⟩ [.ref a, u] [.ref a, y] Q E0 hr2 I1.env0.in1.in1 (by have := hb _ [.ref a, u] I1.kIn (by simpa using hl); simpa using this) (.cons rfl (.cons ry .nil)) h) fun r s' hq => ?_
  cases r with
  | error er => exact hq.elim
  | ok fl =>
    cases fl with
    | ret u =>
      obtain ⟨v, H', I3, rv, q3⟩ := I1.after hq
      exact ⟨v, H', I3, q3⟩
    | next => exact False.elim hq
    | brk => exact False.elim hq
    | cont => exact False.elim hq
/-- e.f = value, a property: the setter's promise -/
theorem ps_prop (F : FnOk X.prog X.w X.K X.mg X.base CX0 k g fd ps sp) (hr : Room (k + 4) X.A) (hb : Binds X.K fd ps []) (ha : PE X o ta) (hv : PE X value tv) (hs : swapsWith value (some (.Attribute o f pos')) pos.line X.env = pure false) : PS X (.Assign [.Attribute o f pos'] value pos) (sProp X.K p g sp ta tv f) := by
  refine ⟨fun pins s σ H D I h => ?_⟩
  refine plainObj_wpAny_Assign_Attribute (thn (hv.run pins s σ H _ I h) fun u s1 ⟨y, H1, I1, ry, q⟩ => thn (ha.run pins s1 σ H1 _ I1 q) fun ov s2 ⟨x, H2, I2, rx, a, C, dx, fs, ex, ea, c, n, q2⟩ => ?_) hs
  subst ex
  obtain rfl : ov = Value.ref a := rx
  exact wpAny_mono (setprop_ok I2 ea c n F hr hb ry q2) (fun _ s3 ⟨v, H3, I3, q3⟩ => ⟨σ, H3, I3, q3⟩) fun _ _ z => z.elim
end
/-! ### one of two -/
section
variable {X : Cx} {e : Expr} {t1 t2 : TE}
theorem pe_two1 (h1 : PE1 X e t1) (h2 : PE1 X e t2) : PE1 X e (fun σ H Q => t1 σ H Q ∨ t2 σ H Q) := ⟨fun pins s σ H Q I h => h.elim (h1.run pins s σ H Q I) (h2.run pins s σ H Q I)⟩
end
/-! ### o.m(e, ..) -/
section
variable {X : Cx} {k : Nat} {f C : Addr} {fd : FuncData} {ps : List Str} {sp : Sp} {dvs : List V} {ds : List Value} {m : Str} {pos apos : Pos} {e o : Expr} {es : List Expr} {ta : TE} {t : TA}
theorem pe_meth1 {pl : Sem Bool} (he : PE1 X o ta) (c : Cls X.K C) (hm : Meth X.K C m f) (F : FnMd X.prog X.w X.K X.mg X.base k f fd ps sp) (hr : Room k X.A) (hb : Binds X.K fd ps ds) (hd : Vals dvs ds) (ha : PA1 X (e :: es) t)
    (hst : starEach (e :: es) X.env = (false, eval e X.env) :: starEach es X.env := by rfl) (hpl : (backTo pos (starEach es X.env)).any (·.1) = false := by rfl)
    (ht : eval (.Call (.Attribute o m apos) (e :: es) [] pos) X.env = (do
      let ov ← eval o X.env
      standAt apos.atName
      let (f, first) ← holding [ov] (getMethod ov m pl)
      callWith pos f first (backTo pos (starEach (e :: es) X.env)) (backToKw pos (keywordEach [] X.env))) := by rfl) : PE1 X (.Call (.Attribute o m apos) (e :: es) [] pos) (tMeth C m sp dvs E0 ta t) := by
  refine ⟨fun pins s σ H Q I h => ?_⟩
  refine PySem.W.methodCall_KW (pl := pl) (mo (he.run pins s σ H _ I h) fun u s1 ⟨p1, x, H1, z1, I1, rx, a, dx, fs, ex, ea, l, q⟩ => ?_) ht
  subst ex
  obtain rfl : u = Value.ref a := rx
  refine getmeth1 I1.inv ea c hm l ?_
  refine PySem.W.callWith_K (first := [.ref a]) (h₀ := X.base) I.inv.ok.mod.kin hm.kp (mo (ha.run pos p1 s1 σ H1 _ I1 q) fun us s2 ⟨p2, vs, H2, z2, I2, r, q2⟩ => ⟨I2.inv.kIn, ?_⟩) hst hpl
  exact mo (run_md (us := .ref a :: us) (vs := .ref a :: vs) F hr hb hd I2 (.cons rfl r) q2) fun _ _ w => w.sub (z1.trans z2)
end
end Gk
/-! Run: its plain methods. -/
namespace Tn
open PySem PySem.Spec PyProof.Rows L2 Gk
abbrev sRun : Stmt := top 20
abbrev sTally : Stmt := top 21
abbrev rI (j : Nat) : Stmt := inClass sRun j
abbrev tI (j : Nat) : Stmt := inClass sTally j
abbrev FnM (K : PySem.W.Frag) (x qual : Str) (st : Stmt) (kws : List (Str × V)) (f : Addr) (fd : FuncData) : Prop := FunD K x qual (defArgs st) (defBody st) (defScope st) [] kws f fd
abbrev most : Int := 100000000000000000000000000000
/-- what is known of the class at C: Run or Tally -/
structure RC (K : PySem.W.Frag) (p gg gs C : Addr) : Prop where
  cls : Cls K C
  nP : NoAttr K C "planted"
  nL : NoAttr K C "places"
  nS : NoAttr K C "spot"
  nG : NoAttr K C "got"
  con : ∃ u, Con K C "MOST_AT" (.int most) u
  pset : PropSet K C "at" p gs
  pget : PropOf K C "at" p gg
abbrev fsR (v pl : V) (z : Int) (rest : List (Str × V)) : List (Str × V) := ("planted", v) :: ("places", pl) :: ("spot", .int z) :: rest
theorem scGet : FnScope ["self"] ["self"] (defScope (rI 2)) := ⟨rfl, rfl, rfl, by decide +kernel, rfl, by decide +kernel, by decide +kernel⟩
theorem scSet : FnScope ["self", "number"] ["self", "number"] (defScope (rI 3)) := ⟨rfl, rfl, rfl, by decide +kernel, rfl, by decide +kernel, by decide +kernel⟩
theorem scMove : FnScope ["self", "number"] ["self", "number"] (defScope (rI 4)) := ⟨rfl, rfl, rfl, by decide +kernel, rfl, by decide +kernel, by decide +kernel⟩
theorem scDeal : FnScope ["self", "owner"] ["self"] (defScope (rI 5)) := ⟨rfl, rfl, rfl, by decide +kernel, rfl, by decide +kernel, by decide +kernel⟩
theorem scRest : FnScope ["self"] ["self"] (defScope (rI 8)) := ⟨rfl, rfl, rfl, by decide +kernel, rfl, by decide +kernel, by decide +kernel⟩
theorem scKind : FnScope ["self"] ["self"] (defScope (rI 10)) := ⟨rfl, rfl, rfl, by decide +kernel, rfl, by decide +kernel, by decide +kernel⟩
def spGet (K : PySem.W.Frag) (p gg gs : Addr) : Sp := fun vs H Q _ => ∃ (r C dx : Addr) (fs : List (Str × V)) (v : V), vs = [.ref r] ∧ H r = some (.ins C dx fs) ∧ RC K p gg gs C ∧ fs.lookup ("spot" : Str) = some v ∧ Q v H
def spSet (K : PySem.W.Frag) (p gg gs : Addr) : Sp := fun vs H Q _ => ∃ (r C dx : Addr) (fs : List (Str × V)) (z : Int), vs = [.ref r, .int z] ∧ H r = some (.ins C dx fs) ∧ RC K p gg gs C ∧ fs.lookup ("MOST_AT" : Str) = none ∧ fs.length < 1000 ∧ 0 ≤ z ∧ z ≤ most ∧ Q .non (upd H r (.ins C dx (putF "spot" (.int z) fs)))
def spDeal (K : PySem.W.Frag) (p gg gs : Addr) : Sp := fun vs H Q _ => ∃ (r C dx : Addr) (v pl : V) (z : Nat) (rest : List (Str × V)) (t : Pt.Tr), vs = [.ref r] ∧ H r = some (.ins C dx (fsR v pl z rest)) ∧ RC K p gg gs C ∧ rest.lookup ("MOST_AT" : Str) = none ∧ rest.length < 100 ∧ (z : Int) + 1 ≤ most ∧ TrAt H v t ∧ t.fit 2 ∧ Q (.str (t.own z)) (upd H r (.ins C dx (fsR v pl (z + 1 : Nat) rest)))
def spRest (K : PySem.W.Frag) (p gg gs : Addr) : Sp := fun vs H Q _ => ∃ (r C dx : Addr) (v pl : V) (z : Nat) (rest : List (Str × V)) (t : Pt.Tr), vs = [.ref r] ∧ H r = some (.ins C dx (fsR v pl z rest)) ∧ RC K p gg gs C ∧ TrAt H v t ∧ t.fit 2 ∧ ∀ v' H', Evl.Ex H H' → TrAt H' v' (t.take z 1) → Q v' H'
section
variable {P : Program} {w : World} {K : PySem.W.Frag} {mg : Str → Option Value} {base : Heap} {p gg gs f fOwn fAhead fEvery fTak fDiv : Addr} {fd fdSet fdOwn fdAhead fdEvery fdTak fdDiv : FuncData}
theorem ok_get (F : FnM K "at" "Run.at" (rI 2) [] f fd) : FnOk P w K mg base CX0 1 f fd ["self"] (spGet K p gg gs) := by
  refine F.ok scGet (fun vs H Q E h => ?_) (fun cdv A outer s H vs Q E hr h => ⟨_, PSs.nox (pss_one (ps_ret (pe_fld (pv 0) rfl))), ?_⟩)
  · obtain ⟨r, C, dx, fs, v, rfl, _⟩ := h
    rfl
  · obtain ⟨r, C, dx, fs, v, rfl, hr, c, hl, hQ⟩ := h
    exact ⟨_, rfl, r, C, dx, fs, v, rfl, hr, c.cls, c.nS, hl, hQ⟩
theorem ok_set (F : FnM K "at" "Run.at" (rI 3) [] f fd) : FnOk P w K mg base CX0 1 f fd ["self", "number"] (spSet K p gg gs) := by
  refine F.ok scSet (fun vs H Q E h => ?_) (fun cdv A outer s H vs Q E hr h => ⟨_, PSs.nox (pss_cons (ps_if (pt_not (pt_chain op_le op_le pe_int (pv 1) (pe_con (pv 0) rfl)))
        (pss_one ps_never)
        pss_nil)
        (pss_one (ps_fld (pv 0) (pv 1) rfl))), ?_⟩)
  · obtain ⟨r, C, dx, fs, z, rfl, _⟩ := h
    rfl
  · obtain ⟨r, C, dx, fs, z, rfl, hr, c, hm, hlen, h0, h1, hQ⟩ := h
    obtain ⟨u, cu⟩ := c.con
    refine ⟨_, rfl, _, _, rfl, rfl, _, rfl, ite2 (fun _ => ?_) fun h => absurd (decide_eq_true h0) h⟩
    refine ⟨_, rfl, r, C, dx, fs, _, u, rfl, hr, c.cls, cu, hm, _, _, rfl, rfl, _, rfl, ?_⟩
    rw [show decide (z ≤ most) = true from decide_eq_true h1]
    refine iteF ?_
    exact ⟨_, rfl, _, rfl, r, C, dx, fs, rfl, hr, c.cls, c.nS, hlen, hQ⟩
theorem ok_move (F : FnM K "move" "Run.move" (rI 4) [] f fd) (FSet : FnM K "at" "Run.at" (rI 3) [] gs fdSet) : FnOk P w K mg base CX0 6 f fd ["self", "number"] (spSet K p gg gs) := by
  have GSet : FnOk P w K mg base CX0 1 gs fdSet ["self", "number"] (spSet K p gg gs) := ok_set FSet
  have bSet : L2.Binds K fdSet ["self", "number"] [] := FSet.bindsN fun _ _ _ _ _ _ us hl => match us, hl with | [_, _], _ => rfl
  refine F.ok scMove (fun vs H Q E h => ?_) (fun cdv A outer s H vs Q E hr h => ⟨_, PSs.nox (pss_one (ps_prop (p := p) GSet (hr.mono (by decide)) bSet (pv 0) (pv 1) rfl)), ?_⟩)
  · obtain ⟨r, C, dx, fs, z, rfl, _⟩ := h
    rfl
  · obtain ⟨r, C, dx, fs, z, rfl, hr, c, hm, hlen, h0, h1, hQ⟩ := h
    exact ⟨_, rfl, _, rfl, r, C, dx, fs, rfl, hr, c.cls, c.pset, r, C, dx, fs, z, rfl, hr, c, hm, hlen, h0, h1, hQ⟩
theorem ok_deal (F : FnM K "deal" "Run.deal" (rI 5) [] f fd) (FSet : FnM K "at" "Run.at" (rI 3) [] gs fdSet) (FOwn : FnP K "owner_of" sOwn fOwn fdOwn) (gLen : mg "len" = none) (gIsi : mg "isinstance" = none) (gStr : mg "str" = none) (gOwn : mg "owner_of" = some (.ref fOwn)) :
    FnOk P w K mg base CX0 6 f fd ["self"] (spDeal K p gg gs) := by
  have GSet : FnOk P w K mg base CX0 1 gs fdSet ["self", "number"] (spSet K p gg gs) := ok_set FSet
  have bSet : L2.Binds K fdSet ["self", "number"] [] := FSet.bindsN fun _ _ _ _ _ _ us hl => match us, hl with | [_, _], _ => rfl
  have GOwn : FnOk P w K mg base CX0 1 fOwn fdOwn ["tree", "item"] spOwn := ok_own FOwn gLen gIsi gStr
  have bOwn : L2.Binds K fdOwn ["tree", "item"] [] := FOwn.bindsN fun _ _ _ _ _ _ us hl => match us, hl with | [_, _], _ => rfl
  refine F.ok scDeal (fun vs H Q E h => ?_) (fun cdv A outer s H vs Q E hr h => ⟨_, PSs.nox (pss_cons (ps_set (i := 1) scDeal.nd rfl (Or.inl rfl) (pe_call GOwn (hr.mono (by decide)) rfl gOwn FOwn.kp bOwn .nil pass0 (pa_cons (pe_fld (pv 0) rfl) (pa_cons (pe_fld (pv 0) rfl) pa_nil))))
        (pss_cons (ps_prop (p := p) GSet (hr.mono (by decide)) bSet (pv 0) (pe_op op_add (pe_fld (pv 0) rfl) pe_int) rfl)
        (pss_one (ps_ret (pv 1))))), ?_⟩)
  · obtain ⟨r, C, dx, v, pl, z, rest, t, rfl, _⟩ := h
    rfl
  · obtain ⟨r, C, dx, v, pl, z, rest, t, rfl, hr, c, hm, hlen, h1, hT, hf, hQ⟩ := h
    refine ⟨_, rfl, r, C, dx, _, v, rfl, hr, c.cls, c.nP, rfl, _, rfl, r, C, dx, _, .int z, rfl, hr, c.cls, c.nS, rfl, v, t, 2, z, rfl, hT, hf, ?_⟩
    refine ⟨_, rfl, r, C, dx, _, .int z, rfl, hr, c.cls, c.nS, rfl, _, _, rfl, rfl, _, rfl, r, C, dx, _, rfl, hr, c.cls, c.pset, r, C, dx, _, _, rfl, hr, c, ?_, ?_, ?_, h1, ?_⟩
    · exact hm
    · show rest.length + 1 + 1 + 1 < 1000; omega
    · omega
    · exact ⟨_, rfl, hQ⟩
theorem ok_rest (F : FnM K "rest" "Run.rest" (rI 8) [] f fd) (FAhead : FnP K "ahead" sAhead fAhead fdAhead) (FEvery : FnP K "every" sEvery fEvery fdEvery) (FTak : FnP K "taken" sTak fTak fdTak) (FDiv : FnP K "divisor" sDiv fDiv fdDiv) (gLen : mg "len" = none) (gRange : mg "range" = none) (gTuple : mg "tuple" = none) (gIsi : mg "isinstance" = none) (gStr : mg "str" = none) (gDiv : mg "divisor" = some (.ref fDiv)) (gTak : mg "taken" = some (.ref fTak)) (gEvery : mg "every" = some (.ref fEvery)) (gAhead : mg "ahead" = some (.ref fAhead)) :
    FnOk P w K mg base CX0 7 f fd ["self"] (spRest K p gg gs) := by
  have GAhead : FnOk P w K mg base CX0 6 fAhead fdAhead ["tree", "count"] (spAhead 2) := ok_ahead FAhead FEvery FTak FDiv gLen gRange gTuple gIsi gStr gDiv gTak gEvery 2
  have bAhead : L2.Binds K fdAhead ["tree", "count"] [] := FAhead.bindsN fun _ _ _ _ _ _ us hl => match us, hl with | [_, _], _ => rfl
  refine F.ok scRest (fun vs H Q E h => ?_) (fun cdv A outer s H vs Q E hr h => ⟨_, PSs.nox (pss_one (ps_ret (pe_call GAhead hr rfl gAhead FAhead.kp bAhead .nil pass0 (pa_cons (pe_fld (pv 0) rfl) (pa_cons (pe_fld (pv 0) rfl) pa_nil))))), ?_⟩)
  · obtain ⟨r, C, dx, v, pl, z, rest, t, rfl, _⟩ := h
    rfl
  · obtain ⟨r, C, dx, v, pl, z, rest, t, rfl, hr, c, hT, hf, hQ⟩ := h
    exact ⟨_, rfl, r, C, dx, _, v, rfl, hr, c.cls, c.nP, rfl, _, rfl, r, C, dx, _, .int z, rfl, hr, c.cls, c.nS, rfl, v, t, z, rfl, hT, hf, hQ⟩
end
end Tn
/-! a == b, a != b by an own __eq__. -/
namespace Gk
open PySem PySem.Spec PyProof.Rows L2
section
variable {prog : Program} {w : World} {A : Around} {E : Value → Shared → Prop} {s : Shared} {K : PySem.W.Frag} {x y C f : Addr} {ox oy : Obj} {od oe : Option Obj}
theorem entry_ne {Q : Fin → Shared → Prop} (hu : A.units < cLine) (X : K.In s.heap) (I : PySem.W.InstAt s.heap x ox C od) (hs : PySem.W.findIn K (.ref C) "__eq__" = some (some (.ref f))) (hf : PySem.W.isFn K (.ref f) = true)
    (hcall : wpAny (model prog w) A (call (.ref f) [.ref x, .ref y]) (fun v s' => ∃ b, v = .bool b ∧ Q (.done (.ret (.bool (!b)))) s') E s) : wpAny (model prog w) A (Builtin.«object.__ne__» ⟨[.ref x, .ref y], []⟩) Q E s := by
  unfold Builtin.«object.__ne__»
  repeat (first
    | with_reducible refine wpAny_cRoomFor hu ?_
    | (refine wpAny_bind (m := callSpecialIfBound? (.ref x) (Str.ofString "__eq__") [.ref y])
        (PySem.W.ifBound_K X I hs hf (wpAny_mono hcall (fun r s' hr => by
          obtain ⟨b, rfl, hq⟩ := hr
          repeat (first | exact hq | exact wpAny_pure hq | exact wpAny_truthy_bool hq | (refine wpAny_bind (m := truthy (.bool _)) (wpAny_truthy_bool ?_)) | wp_step)) fun _ _ e => e)))
    | wp_step)
theorem ifBound_ne {M : Model} {args : List Value} {Q : Option Value → Shared → Prop} (X : K.In s.heap) (I : PySem.W.InstAt s.heap x ox C od) (hs : PySem.W.findIn K (.ref C) "__ne__" = some (some (.builtin "object.__ne__")))
    (h : wpAny M A (call (.builtin "object.__ne__") (.ref x :: args)) (fun v => Q (some v)) E s) : wpAny M A (callSpecialIfBound? (.ref x) "__ne__" args) Q E s := by
  simp only [callSpecialIfBound?, bindSpecialIfBound?]
  refine wpAny_holding (wpAny_bind (wpAny_bind (wpAny_bind (I.type.here ((PySem.W.looks_findIn X hs).here ?_)))))
  refine wpAny_bind (wpAny_askSetting (wpAny_ite ?_))
  have fin : wpAny M A (call (.builtin "object.__ne__") ([.ref x] ++ args) >>= fun v => pure (some v)) Q E s := wpAny_bind (wpAny_mono h (fun v s' h' => wpAny_pure h') fun _ _ h' => h')
  split
  · exact wpAny_bind (wpAny_of_eq (F.cmp_object.ne.bind _) (wpAny_pure (by exact fin)))
  · exact wpAny_tryCatch (wpAny_bind (wpAny_of_eq (F.cmp_object.ne.bind _) (wpAny_pure (by exact fin))))
theorem call_ne {Q : Value → Shared → Prop} (hu : A.units + 1 < cLine) (X : K.In s.heap) (I : PySem.W.InstAt s.heap x ox C od) (hm : PySem.W.mroIn K C (.type "object") = some true) (hs : PySem.W.findIn K (.ref C) "__eq__" = some (some (.ref f))) (hf : PySem.W.isFn K (.ref f) = true)
    (hcall : wpAny (model prog w) A.in1 (call (.ref f) [.ref x, .ref y]) (fun v s' => ∃ b, v = .bool b ∧ Q (.bool (!b)) s') E s) : wpAny (model prog w) A (call (.builtin "object.__ne__") [.ref x, .ref y]) Q E s :=
  wpAny_call (codeAny_call_builtin F.cmp_object.ne.plain F.cmpEntry_ne (PySem.W.check_slot F.cmpKind_ne F.cmpSplit_ne (I.type.andThen (PySem.W.looks_mroIn X hm)) (F.cmpArgs_ne _ _) (entry_ne (A := A.in1) hu X I hs hf (wpAny_mono hcall (fun v s' ⟨b, e, q⟩ => ⟨b, e, q⟩) fun _ _ z => z))))
theorem rc_ne {Q : Value → Shared → Prop} (hu : A.units + 1 < cLine) (X : K.In s.heap) (I : PySem.W.InstAt s.heap x ox C od) (J : PySem.W.InstAt s.heap y oy C oe) (hm : PySem.W.mroIn K C (.type "object") = some true) (hs : PySem.W.findIn K (.ref C) "__eq__" = some (some (.ref f))) (hf : PySem.W.isFn K (.ref f) = true)
    (hn : PySem.W.findIn K (.ref C) "__ne__" = some (some (.builtin "object.__ne__")))
    (hcall : wpAny (model prog w) A.in1 (call (.ref f) [.ref x, .ref y]) (fun v s' => ∃ b, v = .bool b ∧ Q (.bool (!b)) s') E s) : wpAny (model prog w) A (richCompare .NotEq (.ref x) (.ref y)) Q E s := by
  have one : wpAny (model prog w) A (tryCompare (.ref x) "__ne__" (.ref y)) (fun r s' => ∃ v, r = some v ∧ Q v s') E s := by
    unfold tryCompare
    refine wpAny_bind (ifBound_ne X I hn (call_ne (Q := fun v s' => (∃ b, v = .bool b) ∧ Q v s') hu X I hm hs hf (wpAny_mono hcall (fun v s' ⟨b, e, q⟩ => ⟨b, e, ⟨_, rfl⟩, q⟩) fun _ _ z => z) |> fun h => wpAny_mono h (fun v s' hv => ?_) fun _ _ e => e))
    obtain ⟨⟨b, rfl⟩, q⟩ := hv
    exact wpAny_pure ⟨_, rfl, q⟩
  unfold richCompare
  simp only [oneThing_ref]
  refine wpAny_holding (wpAny_bind (wpAny_cRoomFor (Nat.lt_of_succ_lt hu) ?_))
  refine wpAny_bind (I.type.here (wpAny_bind (J.type.here ?_)))
  split
  · rename_i q
    simp at q
  · refine wpAny_bind (wpAny_pure ?_)
    simp only [Bool.false_eq_true, if_false]
    refine wpAny_bind (wpAny_mono one (fun r s' z => ?_) fun _ _ e => e)
    obtain ⟨v, rfl, hq⟩ := z
    exact wpAny_pure hq
end
section
variable {X : Cx} {k : Nat} {C f : Addr} {fd : FuncData} {ps : List Str} {sp : Sp}
/-- a == b, two instances of one class with an own __eq__ that gives a truth value -/
def rEqO (C : Addr) (sp : Sp) : R2 := fun x y H Q => ∃ a b dx dy fs gs, x = .ref a ∧ y = .ref b ∧ H a = some (.ins C dx fs) ∧ H b = some (.ins C dy gs) ∧ sp [.ref a, .ref b] H (fun v H' => (∃ c, v = .bl c) ∧ Q v H') E0
def rNeO (C : Addr) (sp : Sp) : R2 := fun x y H Q => ∃ a b dx dy fs gs, x = .ref a ∧ y = .ref b ∧ H a = some (.ins C dx fs) ∧ H b = some (.ins C dy gs) ∧ sp [.ref a, .ref b] H (fun v H' => ∃ c, v = .bl c ∧ Q (.bl (!c)) H') E0
theorem run_own {A : Around} {pins : List (Addr × Obj)} {s : Shared} {σ : L2.St} {H : Hp} {a b : Addr} {Q : VK} (F : FnOk X.prog X.w X.K X.mg X.base CX0 k f fd ps sp) (hr : Room k A) (hfr : A.frames = X.A.frames) (hb : L2.Binds X.K fd ps []) (I : Inv X pins σ H s) (h : sp [.ref a, .ref b] H Q E0) :
    wpAny (model X.prog X.w) A (call (.ref f) [.ref a, .ref b]) (EP X pins σ Q) no s := by
  have e0 : Env0 X.prog X.w X.K X.mg X.base A X.stack s H := by
    have e := I.env0
    exact ⟨by rw [hfr]; exact e.frames, e.mod, e.bs, e.bsz, e.funs, e.frf, e.hok, e.bare⟩
  have hl := F.len _ _ _ _ h
  have r2 : Vals [V.ref a, V.ref b] [Value.ref a, Value.ref b] := .cons rfl (.cons rfl .nil)
  refine wpAny_call (codeAny_mono (F.run A X.stack s H ⟨[.ref a, .ref b], []⟩ [.ref a, .ref b] [.ref a, .ref b] _ E0 hr e0 (by
    have := hb s [.ref a, .ref b] I.kIn (by simpa using hl)
    simpa using this) r2 h) fun r s' hq => ?_)
  cases r with
  | error e => exact hq.elim
  | ok fl =>
    cases fl with
    | ret u => exact I.after hq
    | next => exact False.elim hq
    | brk => exact False.elim hq
    | cont => exact False.elim hq
theorem op_eqO (F : FnOk X.prog X.w X.K X.mg X.base CX0 k f fd ps sp) (hr : Room k X.A) (hb : L2.Binds X.K fd ps []) (hs : PySem.W.findIn X.K (.ref C) "__eq__" = some (some (.ref f))) (hf : PySem.W.isFn X.K (.ref f) = true) : OpR X (compareOp .Eq) (rEqO C sp) := by
  intro pins s σ H x y v u Q I rx ry h
  obtain ⟨a, b, dx, dy, fs, gs, rfl, rfl, ha, hb', hsp⟩ := h
  cases rx
  cases ry
  obtain ⟨mA, J, _⟩ := ins_get I.hok ha
  obtain ⟨mB, J', _⟩ := ins_get I.hok hb'
  obtain ⟨od, J, _⟩ := J.look
  obtain ⟨od', J', _⟩ := J'.look
  obtain ⟨m, hF⟩ := I.fr
  refine PySem.W.cmp_K (op := .Eq) (tb := .ref C) hr.units0 hF I.ok.mod.kin J J'.type (by simp [PySem.W.notFirst]) hs hf ?_
  refine wpAny_mono (run_own F hr rfl hb I hsp) (fun u s' ⟨v, H', J, rv, ⟨c, ec⟩, q⟩ => ?_) fun _ _ z => z.elim
  subst ec
  cases rv
  exact ⟨.bl c, H', J, rfl, q⟩
theorem op_neO (F : FnOk X.prog X.w X.K X.mg X.base CX0 k f fd ps sp) (hr : Room (k + 1) X.A) (hb : L2.Binds X.K fd ps []) (hs : PySem.W.findIn X.K (.ref C) "__eq__" = some (some (.ref f))) (hf : PySem.W.isFn X.K (.ref f) = true) (hm : PySem.W.mroIn X.K C (.type "object") = some true) (hn : PySem.W.findIn X.K (.ref C) "__ne__" = some (some (.builtin "object.__ne__"))) : OpR X (compareOp .NotEq) (rNeO C sp) := by
  intro pins s σ H x y v u Q I rx ry h
  obtain ⟨a, b, dx, dy, fs, gs, rfl, rfl, ha, hb', hsp⟩ := h
  cases rx
  cases ry
  obtain ⟨mA, J, _⟩ := ins_get I.hok ha
  obtain ⟨mB, J', _⟩ := ins_get I.hok hb'
  obtain ⟨od, J, _⟩ := J.look
  obtain ⟨od', J', _⟩ := J'.look
  refine rc_ne (by have := hr.units; omega) I.kIn J J' hm hs hf hn ?_
  refine wpAny_mono (run_own F hr.in1 rfl hb I hsp) (fun u s' ⟨v, H', J, rv, c, ec, q⟩ => ?_) fun _ _ z => z.elim
  subst ec
  cases rv
  exact ⟨c, rfl, .bl (!c), H', J, rfl, q⟩
end
end Gk
/-! Run: kind, same_place, ==; trees as data. -/
namespace Tn
open PySem PySem.Spec PyProof.Rows L2 Gk
/-! ### trees as data -/
mutual
def trD : Pt.Tr → PyData
  | .lf s => .str s
  | .nd ts => .tuple (trDL ts)
def trDL : List Pt.Tr → List PyData
  | [] => []
  | t :: ts => trD t :: trDL ts
end
mutual
theorem TrAt.dp {K : PySem.W.Frag} {H : Hp} : ∀ (t : Pt.Tr) (v : V), TrAt H v t → Dp K H v (trD t)
  | .lf s, v, h => by rw [TrAt] at h; subst h; rw [trD]; exact .str s
  | .nd ts, v, h => by
    rw [TrAt] at h
    obtain ⟨a, vs, rfl, ha, hl⟩ := h
    rw [trD]
    exact .tup (Evl.st_of ha) (TrAtL.dp ts vs hl)
theorem TrAtL.dp {K : PySem.W.Frag} {H : Hp} : ∀ (ts : List Pt.Tr) (vs : List V), TrAtL H vs ts → DpAll K H vs (trDL ts)
  | [], vs, h => by rw [TrAtL] at h; subst h; rw [trDL]; exact .nil
  | t :: ts, vs, h => by
    rw [TrAtL] at h
    obtain ⟨v, r, rfl, h1, h2⟩ := h
    rw [trDL]
    exact .cons (TrAt.dp t v h1) (TrAtL.dp ts r h2)
end
theorem strOk_of {s : Str} (h : Pt.GoodS s) : PyData.strOk s = true := by
  unfold PyData.strOk
  rw [Array.all_eq_true]
  intro i hi
  exact decide_eq_true (h.2 _ (by simp))
mutual
theorem trD_ok : ∀ (t : Pt.Tr) (d : Nat), t.fit d → (trD t).canLay0 = true ∧ PyData.depth (trD t) ≤ d
  | .lf s, d, h => by
    rw [Pt.Tr.fit] at h
    rw [trD, PyData.canLay0, PyData.depth]
    exact ⟨strOk_of h, Nat.zero_le _⟩
  | .nd ts, 0, h => by rw [Pt.Tr.fit] at h; exact h.elim
  | .nd ts, d + 1, h => by
    rw [Pt.Tr.fit] at h
    obtain ⟨h1, h2⟩ := trDL_ok ts d h.2.2
    rw [trD, PyData.canLay0, PyData.depth]
    exact ⟨h1, Nat.succ_le_succ h2⟩
theorem trDL_ok : ∀ (ts : List Pt.Tr) (d : Nat), Pt.fitL ts d → PyData.canLayAll0 (trDL ts) = true ∧ PyData.depthAll (trDL ts) ≤ d
  | [], d, _ => by rw [trDL]; exact ⟨rfl, Nat.zero_le _⟩
  | t :: ts, d, h => by
    rw [Pt.fitL] at h
    obtain ⟨h1, h2⟩ := trD_ok t d h.1
    obtain ⟨h3, h4⟩ := trDL_ok ts d h.2
    rw [trDL, PyData.canLayAll0, PyData.depthAll, h1, h3]
    exact ⟨rfl, Nat.max_le.mpr ⟨h2, h4⟩⟩
end
theorem trD_shaped {t : Pt.Tr} (h : t.fit 2) : SeqAt.shaped (trD t) = true := by
  obtain ⟨h1, h2⟩ := trD_ok t 2 h
  unfold SeqAt.shaped
  rw [h1, Bool.true_and]
  exact decide_eq_true (by omega)
theorem trD_refl {t : Pt.Tr} (h : t.fit 2) : PyData.eqv (trD t) (trD t) = true := SeqAt.eqv_refl _ (trD_ok t 2 h).1
theorem scSame : FnScope ["self", "other"] ["self", "other"] (defScope (rI 12)) := ⟨rfl, rfl, rfl, by decide +kernel, rfl, by decide +kernel, by decide +kernel⟩
theorem scEq : FnScope ["self", "other"] ["self", "other"] (defScope (rI 13)) := ⟨rfl, rfl, rfl, by decide +kernel, rfl, by decide +kernel, by decide +kernel⟩
def spKind (k : Str) : Sp := fun vs H Q _ => ∃ r : Addr, vs = [.ref r] ∧ Q (.str k) H
/-- two runs over one tree -/
def spSame (K : PySem.W.Frag) (p gg gs C : Addr) : Sp := fun vs H Q _ => ∃ (r1 r2 dx1 dx2 : Addr) (v1 v2 pl1 pl2 : V) (z1 z2 : Nat) (t : Pt.Tr), vs = [.ref r1, .ref r2] ∧ H r1 = some (.ins C dx1 (fsR v1 pl1 z1 [])) ∧ H r2 = some (.ins C dx2 (fsR v2 pl2 z2 [])) ∧ RC K p gg gs C ∧ TrAt H v1 t ∧ TrAt H v2 t ∧ t.fit 2 ∧ Q (.bl (decide (z1 = z2))) H
/-- what isinstance asks of the class at C -/
structure IsiC (K : PySem.W.Frag) (C : Addr) : Prop where
  ha : PySem.W.findIn K (.ref C) "__class__" = some (some (.builtin "object.__class__"))
  hn : PySem.W.specialIn K (.builtin "object.__class__") "__get__" = some (some (.builtin "getset_descriptor.__get__"))
  htk : PySem.W.takesIn K (.builtin "object.__class__") = some true
  hm : PySem.W.mroIn K C (.type "object") = some true
  kit : PySem.W.kitOne K (.ref C) (.ref C) = some true
section
variable {P : Program} {w : World} {K : PySem.W.Frag} {mg : Str → Option Value} {base : Heap} {p gg gs f fKind fSame CR : Addr} {fd fdKind fdSame : FuncData}
theorem ok_kind (F : FnM K "kind" "Run.kind" (rI 10) [] f fd) : FnOk P w K mg base CX0 1 f fd ["self"] (spKind "Run") := by
  refine F.ok scKind (fun vs H Q E h => ?_) (fun cdv A outer s H vs Q E hr h => ⟨_, PSs.nox (pss_one (ps_ret pe_str)), ?_⟩)
  · obtain ⟨r, rfl, _⟩ := h
    rfl
  · obtain ⟨r, rfl, hQ⟩ := h
    exact hQ
theorem ok_same (F : FnM K "same_place" "Run.same_place" (rI 12) [] f fd) (FKind : FnM K "kind" "Run.kind" (rI 10) [] fKind fdKind) (c : RC K p gg gs CR) (mKind : Meth K CR "kind" fKind) : FnOk P w K mg base CX0 2 f fd ["self", "other"] (spSame K p gg gs CR) := by
  have GKind : FnOk P w K mg base CX0 1 fKind fdKind ["self"] (spKind "Run") := ok_kind FKind
  have bKind : L2.Binds K fdKind ["self"] [] := FKind.bindsN fun _ _ _ _ _ _ us hl => match us, hl with | [_], _ => rfl
  refine F.ok scSame (fun vs H Q E h => ?_) (fun cdv A outer s H vs Q E hr h => ⟨_, PSs.nox (pss_one (ps_ret (pe_and (pe_cmpR op_eq (pe_meth0 (pv 0) c.cls mKind GKind hr bKind .nil pass0) (pe_meth0 (pv 1) c.cls mKind GKind hr bKind .nil pass0) (nomark _)) (pe_and (pe_cmpR (op_eqD hr.units) (pe_fld (pv 0) rfl) (pe_fld (pv 1) rfl) (nomark _)) (pe_one (pe_cmpR op_eq (pe_fld (pv 0) rfl) (pe_fld (pv 1) rfl) (nomark _))))))), ?_⟩)
  · obtain ⟨r1, r2, dx1, dx2, v1, v2, pl1, pl2, z1, z2, t, rfl, _⟩ := h
    rfl
  · obtain ⟨r1, r2, dx1, dx2, v1, v2, pl1, pl2, z1, z2, t, rfl, h1, h2, _, hT1, hT2, hf, hQ⟩ := h
    refine ⟨_, rfl, r1, dx1, _, rfl, h1, rfl, r1, rfl, _, rfl, r2, dx2, _, rfl, h2, rfl, r2, rfl, rfl, true, ?_, ?_⟩
    · rw [decide_eq_true rfl]
    refine iteT ?_
    refine ⟨_, rfl, r1, CR, dx1, _, v1, rfl, h1, c.cls, c.nP, rfl, _, rfl, r2, CR, dx2, _, v2, rfl, h2, c.cls, c.nP, rfl, trD t, trD t, hT1.dp, hT2.dp, trD_shaped hf, trD_shaped hf, true, ?_, ?_⟩
    · rw [trD_refl hf]
    refine iteT ?_
    refine ⟨_, rfl, r1, CR, dx1, _, .int z1, rfl, h1, c.cls, c.nS, rfl, _, rfl, r2, CR, dx2, _, .int z2, rfl, h2, c.cls, c.nS, rfl, rfl, ?_⟩
    rw [show decide (V.int (z1 : Int) = V.int (z2 : Int)) = decide (z1 = z2) from decide_eq_decide.mpr ⟨fun z => by injection z with z; omega, fun z => by rw [z]⟩]
    exact hQ
theorem ok_eq (F : FnM K "__eq__" "Run.__eq__" (rI 13) [] f fd) (FSame : FnM K "same_place" "Run.same_place" (rI 12) [] fSame fdSame) (FKind : FnM K "kind" "Run.kind" (rI 10) [] fKind fdKind) (c : RC K p gg gs CR) (i : IsiC K CR) (mKind : Meth K CR "kind" fKind) (mSame : Meth K CR "same_place" fSame) (gIsi : mg "isinstance" = none) (gRun : mg "Run" = some (.ref CR)) :
    FnOk P w K mg base CX0 3 f fd ["self", "other"] (spSame K p gg gs CR) := by
  have GSame : FnOk P w K mg base CX0 2 fSame fdSame ["self", "other"] (spSame K p gg gs CR) := ok_same FSame FKind c mKind
  have bSame : L2.Binds K fdSame ["self", "other"] [] := FSame.bindsN fun _ _ _ _ _ _ us hl => match us, hl with | [_, _], _ => rfl
  refine F.ok scEq (fun vs H Q E h => ?_) (fun cdv A outer s H vs Q E hr h => ⟨_, PSs.nox (pss_one (ps_ret (pe_and (pe_callB call_isi (by rfl) gIsi boot_isinstance (pa_cons (pv 1) (pa_cons (pe_glob (v := .ref CR) (by rfl) gRun rfl) pa_nil))) (pe_one (pe_meth (pv 0) c.cls mSame GSame hr bSame .nil pass0 (pa_cons (pv 1) pa_nil)))))), ?_⟩)
  · obtain ⟨r1, r2, dx1, dx2, v1, v2, pl1, pl2, z1, z2, t, rfl, _⟩ := h
    rfl
  · obtain ⟨r1, r2, dx1, dx2, v1, v2, pl1, pl2, z1, z2, t, rfl, h1, h2, hc, hT1, hT2, hf, hQ⟩ := h
    refine ⟨_, rfl, _, _, _, _, true, rfl, .own CR, .base (.ins h2 c.cls i.ha i.hn i.htk i.hm), i.kit, true, rfl, iteT ?_⟩
    exact ⟨_, rfl, r1, dx1, _, rfl, h1, rfl, _, rfl, r1, r2, dx1, dx2, v1, v2, pl1, pl2, z1, z2, t, rfl, h1, h2, hc, hT1, hT2, hf, hQ⟩
end
end Tn
/-! C(.., k = v, ..) in the marked machine. -/
namespace Gk
open PySem PySem.Spec PyProof.Rows L2
open Sem (wp)
section
variable {X : Cx} {k n : Nat} {f C : Addr} {fd : FuncData} {ps ks : List Str} {sp : Sp} {x : Str} {p pos : Pos} {e : Expr} {es : List Expr} {kws : List Keyword} {t tk : TA} {g : List Value → List Value → List Value} {gV : List V → List V → List V}
theorem run_makeK1 {pins : Pl} {σ : L2.St} {H : Hp} {s : Shared} {Q : VK} {us ws : List Value} {vs zs : List V} (M : Mk X.K C f) (F : FnMd X.prog X.w X.K X.mg X.base k f fd ps sp) (hr : Room (k + 1) X.A) (hb : KBn X.K fd ps (n + 1) ks g gV)
    (I : In1 X pins σ H s) (r : Vals vs us) (rz : Vals zs ws) (l1 : vs.length = n) (l2 : zs.length = ks.length)
    (h : ∀ x dx, H x = none → H dx = none → dx ≠ x → sp (gV (.ref x :: vs) zs) (upd (upd H dx (.own x)) x (.ins C dx [])) (fun v H2 => v = .non ∧ Q (.ref x) H2) E0) :
    wpAny (Md X.prog X.w) X.A (call (.ref C) us (ks.zip ws)) (EP1 X pins σ Q) no s := by
  have hq := h (s.heap.objs.size + 1) s.heap.objs.size (I.inv.hok.fresh (Nat.le_succ _)) (I.inv.hok.fresh (Nat.le_refl _)) (Nat.ne_of_lt (Nat.lt_succ_self _))
  have J2 := Inv.made (C := C) I.inv
  have r1 : Vals (V.ref (s.heap.objs.size + 1) :: vs) (Value.ref (s.heap.objs.size + 1) :: us) := .cons rfl r
  have r2 := hb.rel r1 rz
  have n1 : (Value.ref (s.heap.objs.size + 1) :: us).length = n + 1 := by
    rw [List.length_cons, ← r.length, l1]
  refine wpAny_call (PySem.W.make_md (f := f) I.inv.bare I.inv.kIn M.makes M.init (beq_iff_eq.mp M.fn) fun s1 eh eo z => ?_)
  obtain ⟨sh, z, bb⟩ := z
  have I2 : In1 X pins σ (upd (upd H s.heap.objs.size (.own (s.heap.objs.size + 1))) (s.heap.objs.size + 1) (.ins C s.heap.objs.size [])) s1 :=
    ⟨Inv.other J2 eh eo (allBare_of_zb z bb), told_of_zb z fun i k a c p fs cl e => I.told i k a c p fs cl e⟩
  have hk := hr.make C us (ks.zip ws)
  have hf : (X.A.under (.builtin "type.__call__" ⟨.ref C :: us, ks.zip ws⟩)).frames = some X.stack := (J2.env0.make C us (ks.zip ws)).frames
  refine codeAny_mono (F.run X rfl rfl rfl rfl rfl _ hf hk pins σ _ s1 ⟨Value.ref (s.heap.objs.size + 1) :: us, ks.zip ws⟩ (g (Value.ref (s.heap.objs.size + 1) :: us) ws) _ _ I2
    (fun s2 e2 => hb.to _ (Value.ref (s.heap.objs.size + 1) :: us) ws (by rw [e2]; exact I2.inv.kIn) n1 (rz.length.symm.trans l2)) r2 hq) fun r s' hq' => ?_
  cases r with
  | error e => exact hq'.elim
  | ok fl =>
    cases fl with
    | ret u =>
      obtain ⟨p2, v, H', hs, I3, rv, ev, q3⟩ := hq'
      subst ev
      exact ⟨rv, ⟨p2, V.ref (s.heap.objs.size + 1), H', hs, I3, rfl, q3⟩⟩
    | next => exact False.elim hq'
    | brk => exact False.elim hq'
    | cont => exact False.elim hq'
/-- C(e, .., k = v, ..) -/
theorem pe_makeK1 (hx : Nox X) (M : Mk X.K C f) (F : FnMd X.prog X.w X.K X.mg X.base k f fd ps sp) (hr : Room (k + 1) X.A) (hg : L2.Gl X x) (hm : X.mg x = some (.ref C)) (hb : KBn X.K fd ps (n + 1) ks g gV) (ha : PA1 X (e :: es) t) (hkw : PK X kws tk)
    (hall : (backToKw pos (keywordEach kws X.env)).all (·.1.isSome) = true := by rfl) (hks : (backToKw pos (keywordEach kws X.env)).filterMap (·.1) = ks := by rfl) (hdb : (x == ("__debug__" : Str)) = false := by decide)
    (he : starEach (e :: es) X.env = (false, eval e X.env) :: starEach es X.env := by rfl) (hpl : ((backTo pos (starEach (e :: es) X.env)).any (·.1) || (backToKw pos (keywordEach kws X.env)).any (·.1.isNone)) = false := by rfl) :
    PE1 X (.Call (.Name x p) (e :: es) kws pos) (tMakeK C n ks.length sp gV E0 t tk) := by
  refine ⟨fun pins s σ H Q I h => ?_⟩
  refine wpAny_Call_Name_kw (ld_glob1 I.inv hg hm ?_ hdb)
  refine PySem.W.callWith_KW (h₀ := X.base) I.inv.ok.mod.kin M.kp hall (mo (ha.run pos pins s σ H _ I h) fun us s1 ⟨p1, vs, H1, z1, I1, r, q⟩ => ?_) hpl he
  refine mo (in1_stepH (A := X.A) (R := fun ws σ' H' _ => σ' = σ ∧ ∃ zs, Vals zs ws ∧ (fun zs H2 => vs.length = n ∧ zs.length = ks.length ∧ ∀ x dx, H2 x = none → H2 dx = none → dx ≠ x → sp (gV (.ref x :: vs) zs) (upd (upd H2 dx (.own x)) x (.ins C dx [])) (fun v H3 => v = .non ∧ Q (.ref x) H3) E0) zs H') I1
    (wpAny_mono (hkw.run pos p1 (lulled s1) σ H1 _ (Inv.lulled I1.inv) q) (fun ws sh ⟨zs, H2, J, rz, q2⟩ => ⟨σ, H2, J, rfl, zs, rz, q2⟩) fun _ _ z => hx _ _ z)) fun ws s2 ⟨_, σ', H2, J, e1, zs, rz, l1, l2, q2⟩ => ⟨J.inv.kIn, ?_⟩
  subst e1
  rw [hks]
  exact mo (run_makeK1 M F hr hb J r rz l1 l2 q2) fun _ _ w => w.sub z1
end
end Gk
/-! Run(tree, at = ..). -/
namespace Gk
open PySem PySem.Spec PyProof.Rows L2
theorem ps_fld1 {X : Cx} {o value : Expr} {f : Str} {pos pos' : Pos} {ta tv : TE} (hx : Nox X) (ha : PE1 X o ta) (hv : PE1 X value tv) (hs : swapsWith value (some (.Attribute o f pos')) pos.line X.env = pure false) : PS1 X (.Assign [.Attribute o f pos'] value pos) (sFld X.K ta tv f) := by
  refine ⟨fun pins s σ H D I h => ?_⟩
  refine plainObj_wpAny_Assign_Attribute (mo (hv.run pins s σ H _ I h) fun u s1 ⟨p1, y, H1, z1, I1, ry, q⟩ => mo (ha.run p1 s1 σ H1 _ I1 q) fun ov s2 ⟨p2, x, H2, z2, I2, rx, a, C, dx, fs, ex, ea, c, n, l, q2⟩ => ?_) hs
  subst ex
  obtain rfl : ov = Value.ref a := rx
  exact mo (in1_stepH (A := X.A) (R := fun _ σ' H' _ => D.nx σ' H') I2 (setattr_ok (s := lulled s2) (Inv.lulled I2.inv) ea c n l ry fun s3 I3 => ⟨σ, _, I3, q2⟩)) fun _ s3 ⟨_, σ', H', J, q3⟩ => ⟨p2, σ', H', z1.trans z2, J, q3⟩
end Gk
namespace Tn
open PySem PySem.Spec PyProof.Rows L2 Gk
theorem scInit : FnScope ["self", "tree", "at"] ["self", "tree", "at"] (defScope (rI 1)) := ⟨rfl, rfl, rfl, by decide +kernel, rfl, by decide +kernel, by decide +kernel⟩
/-- all but x stands -/
def ExO (x : Addr) (H H' : Hp) : Prop := ∀ a o, a ≠ x → H a = some o → H' a = some o
def spInit (K : PySem.W.Frag) (p gg gs : Addr) : Sp := fun vs H Q _ => ∃ (x C dx : Addr) (v : V) (t : Pt.Tr) (z : Nat), vs = [.ref x, v, .int z] ∧ H x = some (.ins C dx []) ∧ RC K p gg gs C ∧ TrAt H v t ∧ t.fit 2 ∧ (z : Int) ≤ most ∧
  ∀ (pl : V) H', ExO x H H' → H' x = some (.ins C dx (fsR v pl z [])) → Q .non H'
section
variable {P : Program} {w : World} {K : PySem.W.Frag} {mg : Str → Option Value} {base : Heap} {p gg gs f fEnds : Addr} {fd fdSet fdEnds : FuncData}
theorem init_b (F : FnM K "__init__" "Run.__init__" (rI 1) [("at", .int 0)] f fd) : ∃ g : List Value → List Value → List Value, KBn K fd ["self", "tree", "at"] 2 ["at"] g (fun vs zs => vs ++ zs) := by
  obtain ⟨mv, h⟩ := F.kbinds0 (ps := ["self", "tree", "at"]) 2 ["at"] [] (fun us _ ws => us ++ ws) (by simp) (fun q hq => nomatch hq) (fun a _ b => a.append b) (fun D doc pm an cdv ct us mv ws h1 h2 h3 => match us, mv, ws, h1, h2, h3 with | [_, _], [], [_], _, _, _ => rfl)
  exact ⟨_, h⟩
theorem ok_init (F : FnM K "__init__" "Run.__init__" (rI 1) [("at", .int 0)] f fd) (FSet : FnM K "at" "Run.at" (rI 3) [] gs fdSet) (FEnds : FnPD K "ends" sEnds [.int 0, .int 1] fEnds fdEnds) (gLen : mg "len" = none) (gIsi : mg "isinstance" = none) (gStr : mg "str" = none) (gEnum : mg "enumerate" = none) (gList : mg "list" = none) (gEnds : mg "ends" = some (.ref fEnds)) :
    FnMd P w K mg base 11 f fd ["self", "tree", "at"] (spInit K p gg gs) := by
  have GEnds : GFn1 P w K mg base 7 fEnds fdEnds psEnds (spEnds 2) := ok_ends FEnds gLen gIsi gStr gEnum gEnds 2
  obtain ⟨ds, rds, bEnds⟩ := ends_b1 FEnds
  have GSet : FnOk P w K mg base CX0 1 gs fdSet ["self", "number"] (spSet K p gg gs) := ok_set FSet
  have bSet : L2.Binds K fdSet ["self", "number"] [] := FSet.bindsN fun _ _ _ _ _ _ us hl => match us, hl with | [_, _], _ => rfl
  refine fn_mdD F scInit (fun vs H Q E h => ?_) (fun cdv A outer s H vs Q hr h => ⟨_, (pss_cons1 (PS.up (fun _ _ z => z) (ps_fld (pv 0) (pv 1) rfl))
        (pss_cons1 (ps_fld1 (fun _ _ z => z) (PE.up (fun _ _ z => z) (pv 0)) (pe_listG1 (pgen_call1 GEnds (hr.mono (by decide)) rfl gEnds FEnds.kp bEnds rds (PA.up (fun _ _ z => z) (pa_cons (pv 1) pa_nil))) (hr.mono (by decide)) rfl (by rfl) gList (by decide +kernel)) rfl)
        (pss_cons1 (PS.up (fun _ _ z => z) (ps_fld (pv 0) pe_int rfl))
        (pss_one1 (PS.up (fun _ _ z => z) (ps_prop (p := p) GSet (hr.mono (by decide)) bSet (pv 0) (pv 2) rfl)))))), ?_⟩)
  · obtain ⟨x, C, dx, v, t, z, rfl, _⟩ := h
    rfl
  · obtain ⟨x, C, dx, v, t, z, rfl, hx, c, hT, hf, hz, hQ⟩ := h
    have e1 : ∀ o, ExO x H (upd H x o) := fun o a u n h => by rw [upd_ne n]; exact h
    have u1 : ∀ o, ExtU H (upd H x o) := fun o a vs h => by
      rw [upd_ne]
      · exact h
      · intro z; subst z; rw [hx] at h; cases h
    have hc := Pt.ends_count t 2 0 1 hf
    refine ⟨_, rfl, _, rfl, x, C, dx, _, rfl, hx, c.cls, c.nP, by show 0 < 1000; decide, ?_⟩
    refine ⟨_, rfl, _, _, ⟨v, t, 0, 1, _, rfl, rfl, ExtU.refl _, TrAt.up (u1 _) _ _ hT, hf, by decide, by decide, rfl⟩, ?_, ?_, ?_, fun S ws H2 hS hx2 hws _ => ?_⟩
    · intro H1 H2 xl h1
      exact h1.trans fun a vs h => xl a _ (by intro l z; cases z) h
    · intro it hit v H1 H2 xl h1
      obtain ⟨e, _, rfl⟩ := List.mem_map.mp hit
      obtain ⟨a, rfl, ha⟩ := h1
      exact ⟨a, rfl, xl a _ (by intro l z; cases z) ha⟩
    · rw [List.length_map]; exact Evl.sz_of (by omega)
    have hxx := hx2 x _ upd_same
    refine ⟨_, rfl, x, C, dx, _, rfl, hxx, c.cls, c.nL, by show 1 < 1000; decide, ?_⟩
    refine ⟨_, rfl, x, C, dx, _, rfl, upd_same, c.cls, c.nS, by show 2 < 1000; decide, ?_⟩
    refine ⟨_, rfl, _, rfl, x, C, dx, _, rfl, upd_same, c.cls, c.pset, x, C, dx, _, z, rfl, upd_same, c, rfl, by show 3 < 1000; decide, by omega, hz, ?_⟩
    refine hQ (.ref S) _ (fun a o n h => ?_) upd_same
    rw [upd_ne n, upd_ne n, upd_ne n]
    exact hx2 a o (e1 _ a o n h)
end
end Tn
/-! deal_many. -/
namespace Tn
open PySem PySem.Spec PyProof.Rows L2 Gk
abbrev nDm : List Str := ["self", "count", "number"]
theorem scDm : FnScope nDm ["self", "count"] (defScope (rI 6)) := ⟨rfl, rfl, rfl, by decide +kernel, rfl, by decide +kernel, by decide +kernel⟩
/-- all but S stands -/
def ExS (S : Addr → Prop) (H H' : Hp) : Prop := ∀ b o, ¬ S b → H b = some o → H' b = some o
/-- what the dealing of many asks of one deal -/
structure DmOk (C : Addr) (spD : Sp) (r : Addr) (z n : Nat) (St : Nat → Hp → Prop) (S : Addr → Prop) (a : Nat → Str) : Prop where
  at_ : ∀ i H, St i H → ∃ dx v pl rest, H r = some (.ins C dx (fsR v pl (z + i : Nat) rest)) ∧ rest.lookup ("deal" : Str) = none ∧ rest.lookup ("MOST_AT" : Str) = none
  keep : ∀ i H H', (∀ b o, S b → H b = some o → H' b = some o) → ExtU H H' → St i H → St i H'
  has : ∀ i H b, St i H → S b → H b ≠ none
  turn : ∀ i H Q, i < n → St i H → (∀ H', St (i + 1) H' → ExS S H H' → Q (.str (a i)) H') → spD [.ref r] H Q E0
def spDm (C : Addr) (spD : Sp) : Sp := fun vs H Q _ => ∃ (r : Addr) (z n : Nat) (St : Nat → Hp → Prop) (S : Addr → Prop) (a : Nat → Str), vs = [.ref r, .int n] ∧ n ≤ 1000 ∧ St 0 H ∧ (z : Int) + n ≤ most ∧ DmOk C spD r z n St S a ∧
  ∀ q H', H q = none → ExS S H H' → H' q = some (.lst ((List.range n).map fun i => V.str (a i))) → St n H' → Q (.ref q) H'
section
variable {P : Program} {w : World} {K : PySem.W.Frag} {mg : Str → Option Value} {base : Heap} {p gg gs C f fD : Addr} {fd fdD : FuncData} {spD : Sp}
theorem ok_dm (F : FnM K "deal_many" "Run.deal_many" (rI 6) [] f fd) (c : RC K p gg gs C) (mDeal : Meth K C "deal" fD) (GDeal : FnMd P w K mg base 8 fD fdD ["self"] spD) (bDeal : L2.Binds K fdD ["self"] []) (gRange : mg "range" = none) :
    FnMd P w K mg base 9 f fd ["self", "count"] (spDm C spD) := by
  refine fn_mdD F scDm (fun vs H Q E h => ?_) (fun cdv A outer s H vs Q hr h => ⟨_, (pss_cons1 (PS.up (fun _ _ z => z) (ps_if (pt_cmpR op_gt (pe_op op_add (pe_fld (pv 0) rfl) (pv 1)) (pe_con (pv 0) rfl) (nomark _))
        (pss_one ps_never)
        pss_nil))
        (pss_one1 (ps_ret1 (pe_lc1 (own := [("number", 2)]) (g := gName 2) (tt := tYes) (fun _ _ z => z) scDm.nd (pi_range11 (fun _ _ z => z) rfl rfl gRange (pa_cons (pv 1) pa_nil)) (blkOk_by (N := nDm) (sc := defScope (rI 6)) (by decide +kernel)) (by decide +kernel) (fun _ _ _ _ _ => (pg_name (i := 2) scDm.nd rfl (Or.inl rfl))) (fun _ _ _ _ _ => pts_nil) (fun _ _ _ _ _ => (pe_meth01 (PE.up (fun _ _ z => z) (pv 0)) c.cls mDeal GDeal hr bDeal .nil)))))), ?_⟩)
  · obtain ⟨r, z, n, St, S, a, rfl, _⟩ := h
    rfl
  · obtain ⟨r, z, n, St, S, a, rfl, hn, h0, hz, D0, hQ⟩ := h
    obtain ⟨u, cu⟩ := c.con
    obtain ⟨dx, v, pl, rest, hr0, hd0, hm0⟩ := D0.at_ 0 H h0
    refine ⟨_, rfl, r, C, dx, _, _, rfl, hr0, c.cls, c.nS, rfl, _, rfl, _, _, rfl, rfl, _, rfl, r, C, dx, _, _, u, rfl, hr0, c.cls, cu, hm0, _, _, rfl, rfl, _, rfl, ite2 (fun h => absurd (of_decide_eq_true h) (by omega)) fun _ => ?_⟩
    refine ⟨_, rfl, (n : Int), rfl, by omega, by omega, fun D hD => ?_⟩
    have nD : ∀ i H', St i H' → ∀ b, S b → H b = none → False := fun i H' h b hb e => D0.has 0 H b h0 hb e
    have nSD : ¬ S D := fun h => D0.has 0 H D h0 h hD
    have keepD : ∀ i H' (xs ys : List V), H' D = some (.lst xs) → St i H' → St i (upd H' D (.lst ys)) := fun i H' xs ys e h => D0.keep i H' _ (fun b o hb eb => by rw [upd_ne (by rintro rfl; exact nSD hb)]; exact eb) (ExtU.lst e) h
    refine comp_range1 (n := n) (fun i H' => St i H' ∧ ExS S H H' ∧ H' D = some (.lst ((List.range i).map fun i => V.str (a i)))) ?_ ?_ ?_ ?_
    · rintro i H1 H2 x ⟨h1, h2, h3⟩
      exact ⟨D0.keep i H1 H2 (fun b o _ e => x b o e) (.of x) h1, fun b o hb e => x b o (h2 b o hb e), x _ _ h3⟩
    · refine ⟨D0.keep 0 H _ (fun b o _ e => Evl.Ex.new hD b o e) (ExtU.new hD) h0, fun b o hb e => Evl.Ex.new hD b o e, upd_same⟩
    · rintro i H1 hi ⟨h1, h2, h3⟩
      obtain ⟨dx1, v1, pl1, rest1, hr1, hd1, hm1⟩ := D0.at_ i H1 h1
      refine ⟨rfl, t_yes ⟨_, rfl, r, dx1, _, rfl, hr1, hd1, ?_⟩⟩
      refine D0.turn i H1 _ hi h1 fun H2 h4 h5 => ⟨_, h5 D _ nSD h3, Evl.sz_lt (by rw [List.length_map, List.length_range]; omega), keepD _ _ _ _ (h5 D _ nSD h3) h4, fun b o hb e => ?_, ?_⟩
      · rw [upd_ne (ne_of_none e hD)]
        exact h5 b o hb (h2 b o hb e)
      · rw [upd_same, List.range_succ, List.map_append]; rfl
    · rintro H1 ⟨h1, h2, h3⟩
      exact hQ D H1 hD h2 h3 h1
end
end Tn
/-! super() in the marked machine. -/
namespace Gk
open PySem PySem.Spec PyProof.Rows L2
open Sem (wp)
section
variable {P : Program} {w : World} {A : Around}
theorem wpAt_bb {α : Type} {c : Code} {s : Shared} {t : Sem α} {Q : α → Shared → Prop} {E : Value → Shared → Prop} (hb : AllBare s.gens) (h : PySem.wpAt (model P w) A c t Q E (lulled s)) :
    PySem.wpAt (Md P w) A c t (fun a s' => Asleep s s' ∧ ∃ sh', Zb s.gens s' sh' ∧ Q a sh') (fun e s' => Asleep s s' ∧ ∃ sh', Zb s.gens s' sh' ∧ E e sh') s := fun Ga p hc hG => by
  have := wp_bb Ga s.gens t _ _ p s (lulled s) (zb_lulled hb) (h Ga p hc hG)
  refine Sem.wp_mono (Md P w) Ga t ?_ ?_ p s this
  · rintro a p' s' ⟨sh', z, q⟩
    exact ⟨fun i k l c p fs cl e => (z.zb.slp i k l c p fs cl e).1, sh', z, q⟩
  · rintro a p' s' ⟨sh', z, q⟩
    exact ⟨fun i k l c p fs cl e => (z.zb.slp i k l c p fs cl e).1, sh', z, q⟩
theorem md_funcAt {env : Env} {body : List Stmt} {s : Shared} {R : Result → Shared → Prop} (h : PySem.wpAt (Md P w) (A.deeper env) (.func body env) (execs body env) (fun f s' => R (.ok (.ret (match f with | .ret v => v | _ => .none))) s') no s) : codeAny (Md P w) A (.func body env) R s := by
  refine PySem.codeAny_of_treeAt fun Ga p hc hG => ?_
  show wp (Md P w) Ga (uy (.func body env) (do point; match ← (execs body env).onRaise (leaving env) with | .ret v => ret v | _ => ret .none)) _ _ p s
  refine wp_uy ?_
  have q : PySem.wpAt (Md P w) (A.deeper env) (.func body env) (do point; match ← (execs body env).onRaise (leaving env) with | .ret v => ret v | _ => ret .none)
      (fun fin s' => match fin with | .done f => R (.ok f) s' | .again c' => c'.quiet = true ∧ codeAny (Md P w) A c' R s') (fun e s' => R (.error e) s') s := by
    refine PySem.wpAt_bind (PySem.wpAt_of_wpAny (wpAny_point (PySem.wpAt_bind (ks_wpAt_onRaise (PySem.wpAt_mono h (fun f s' h' => ?_) fun _ _ h' => h'.elim)))))
    cases f <;> exact PySem.wpAt_of_wpAny (wpAny_pure h')
  exact q Ga p hc hG
theorem md_bound {b f : Addr} {x : Value} {a : Args} {R : Result → Shared → Prop} {s : Shared} (hb : s.heap.get? b = some (PySem.W.methodObj (.ref f) x))
    (hq : codeAny (Md P w) A (.call (.ref f) { a with pos := x :: a.pos }) R s) : codeAny (Md P w) A (.call (.ref b) a) R s := by
  refine md_tree ?_
  show wpAny _ A.in1 (callAny (.ref b) a) _ _ _
  unfold callAny
  refine wpAny_bind (wpAny_load hb ?_)
  exact wpAny_pure ⟨rfl, hq⟩
end

/-! ### the context of a def that has the class's cell -/
abbrev cxS (P : Program) (w : World) (K : PySem.W.Frag) (mg : Str → Option Value) (base : Heap) (N : List Str) (qual : Str) (scope : Scope) (f : Addr) (cd : Value) (cc : Addr) (A : Around) (outer : List Env) (s : Shared) (H : Hp) : Cx where
  prog := P
  w := w
  K := K
  mg := mg
  base := base
  A := A.deeper (PySem.W.ksEnv qual scope s.heap.objs.size f cd cc)
  N := N
  s_0 := s
  H_0 := H
  env := PySem.W.ksEnv qual scope s.heap.objs.size f cd cc
  outer := outer
  stack := PySem.W.ksEnv qual scope s.heap.objs.size f cd cc :: outer
  ex := []
  calm := true
  fn := fun _ => false
  pn := []
  xe := no
structure SupScope (N P : List Str) (sc : Scope) : Prop where
  kind : sc.kind = .function
  co : sc.isCoroutine = false
  gen : sc.isGenerator = false
  nd : N.Nodup
  pre : N.take P.length = P
  par : ∀ x ∈ P, sc.names.lookup x = some .local
  own : ∀ x, (sc.names.lookup x = some .cell ∨ sc.names.lookup x = some .free) → x = ("__class__" : Str)
  noc : ∀ x ∈ sc.names, x.2 ≠ .cell
theorem rev_lookup {ps : List Str} {us : List Value} (nd : ps.Nodup) (hl : ps.length ≤ us.length) {i : Nat} {x : Str} {u : Value} (h1 : ps[i]? = some x) (h2 : us[i]? = some u) : (ps.zip us).reverse.lookup x = some u := by
  have hm : (x, u) ∈ ps.zip us := by
    refine List.mem_iff_getElem?.mpr ⟨i, ?_⟩
    rw [List.getElem?_zip_eq_some]
    exact ⟨h1, h2⟩
  have nd2 : ((ps.zip us).map Prod.fst).Nodup := by
    rw [List.map_fst_zip hl]
    exact nd
  have key : ∀ (l : List (Str × Value)), (l.map Prod.fst).Nodup → (x, u) ∈ l → l.lookup x = some u := by
    intro l
    induction l with
    | nil => intro _ h; cases h
    | cons q l ih =>
      intro hn hq
      obtain ⟨y, v⟩ := q
      rw [List.map_cons, List.nodup_cons] at hn
      rcases List.mem_cons.mp hq with e | hq
      · cases e; simp [List.lookup]
      · have hne : x ≠ y := fun z => hn.1 (by have q := List.mem_map_of_mem (f := Prod.fst) hq; rw [z] at q; exact q)
        simp [List.lookup, beq_eq_false_iff_ne.mpr hne, ih hn.2 hq]
  refine key _ ?_ (List.mem_reverse.mpr hm)
  rw [List.map_reverse]
  exact List.pairwise_reverse.mpr (List.Pairwise.imp Ne.symm nd2)
theorem inv_startS {P : Program} {w : World} {K : PySem.W.Frag} {mg : Str → Option Value} {base : Heap} {N ps : List Str} {qual : Str} {scope : Scope} {f : Addr} {cd : Value} {cc D : Addr} {cl : Value} {cld : Option Addr} {csl : Array (Option Value)} {A : Around} {outer : List Env} {s s1 : Shared} {H : Hp} {us : List Value} {vs : List V} {h1 : Heap} {tk : Nat}
    (S : SupScope N ps scope) (hd : A.handled = none) (e0 : Env0 P w K mg base A outer s H) (hl : vs.length = ps.length) (r : Vals vs us) (hcell : K.lookup cc = some ⟨cl, cld, .cell (some (.ref D)), csl⟩)
    (ns : h1.Ns s.heap.objs.size (fun x => (ps.zip us).reverse.lookup x)) (hk : ∀ b o, s.heap.get? b = some o → h1.get? b = some o) (es : s1 = { s with heap := h1, toks := tk }) :
    Inv (cxS P w K mg base N qual scope f cd cc A outer s H) [] (start N vs) H s1 := by
  subst es
  have hpl : ps.length ≤ N.length := by have := congrArg List.length S.pre; rw [List.length_take] at this; omega
  have cb := e0.mod.kin _ _ hcell
  have hcs := (e0.bs _ _ cb)
  have one : ∀ x c, (cxS P w K mg base N qual scope f cd cc A outer s H).env.cells.lookup x = some c → c = cc := fun x c h => by
    have h : ([(("__class__" : Str), cc)] : List (Str × Addr)).lookup x = some c := h
    simp only [List.lookup] at h
    split at h
    · exact (Option.some.inj h).symm
    · cases h
  have onek : ∀ x c, (cxS P w K mg base N qual scope f cd cc A outer s H).env.cells.lookup x = some c → x = ("__class__" : Str) := fun x c h => by
    have h : ([(("__class__" : Str), cc)] : List (Str × Addr)).lookup x = some c := h
    simp only [List.lookup] at h
    split at h
    · rename_i e; exact beq_iff_eq.mp e
    · cases h
  refine ⟨⟨e0.mod, S.kind, rfl, rfl, Nat.le_refl _, fun y z c a b => (onek y c a).trans (onek z c b).symm, fun y hy => ?_, fun y c h _ => absurd h (by simp), fun _ => hd, Around.frames_deeper e0.frames, .inr ⟨rfl, rfl⟩, fun b z => absurd z (by simp), e0.bs, e0.bsz, fun b _ _ z => absurd z (by simp), fun b z => absurd z (by simp), e0.funs, e0.frf⟩,
    rfl, e0.bare, Un.kept hk, ⟨_, ns, fun i y v a b c => ?_⟩, fun y c h => ?_, e0.hok.fresh (Nat.le_refl _), fun y c h => ?_, fun p hp => absurd (show p ∈ ([] : List (Addr × Obj)) from hp) (by simp), e0.hok.kept hk, ?_⟩
  · have : y = ("__class__" : Str) := S.own y hy
    subst this
    exact ⟨cc, by show ([(("__class__" : Str), cc)] : List (Str × Addr)).lookup _ = _; simp [List.lookup]⟩
  · have hi : i < vs.length := by
      unfold L2.start at b
      by_cases hi : i < vs.length
      · exact hi
      · rw [List.getElem?_append_right (by simpa using hi)] at b
        rw [List.getElem?_replicate] at b
        split at b <;> cases b
    have ha : vs[i]? = some v := by
      unfold L2.start at b
      rw [List.getElem?_append_left (by simpa using hi), List.getElem?_map] at b
      cases e : vs[i]? with
      | none => rw [e] at b; cases b
      | some a => rw [e] at b; cases b; rfl
    obtain ⟨u, hu, rv⟩ := r.get ha
    have hp : ps[i]? = some y := by
      rw [← S.pre, List.getElem?_take_of_lt (by omega)]; exact a
    have ndP : ps.Nodup := by rw [← S.pre]; exact S.nd.sublist (List.take_sublist _ _)
    exact ⟨u, rv, .inl ⟨S.par y (List.mem_of_getElem? hp), rev_lookup ndP (by rw [← r.length, hl]; exact Nat.le_refl _) hp hu⟩⟩
  · rw [one y c h]; exact ⟨_, _, hk _ _ hcs.1, rfl⟩
  · rw [one y c h]; exact hcs.2
  · show (L2.start N vs).length = N.length
    unfold L2.start
    rw [List.length_append, List.length_map, List.length_replicate]
    omega

/-! ### super() and its method -/
/-- what the head knows of a def that says super() -/
structure SupF (prog : Program) (K : PySem.W.Frag) (f cda cc D : Addr) (slf : Str) : Prop where
  fd : ∃ oc od fd osl ar, K.lookup f = some ⟨oc, od, .func fd, osl⟩ ∧ (fd.params.posonlyargs ++ fd.params.args).head? = some ar ∧ ar.arg = slf
  code : ∃ ccl cdd vs ccs file tf, K.lookup cda = some ⟨ccl, cdd, .fields vs, ccs⟩ ∧ vs[2]? = some (.str file tf) ∧ ((prog.main.file : Str) == file) = true
  cell : ∃ cl cld csl, K.lookup cc = some ⟨cl, cld, .cell (some (.ref D)), csl⟩
  cls : ∃ cd, PySem.W.clsIn K D = some cd
  sup : PySem.W.nsIn K mainGlobals "super" = some none
  top : (prog.main.scope.names.lookup ("super" : Str)).isSome = false
  opq : PySem.W.nsIn K cStatics "thirdparty.any" = some none
section
variable {X : Cx} {pins : Pl} {σ : L2.St} {H : Hp} {s : Shared} {q slf : Str} {scope : Scope} {L f cda cc D C x dx : Addr} {fs : List (Str × V)} {i : Nat} {body : List Stmt} {p0 p1 : Pos} {attr : Str} {whole : Sem Value}
theorem sup_base (I : Inv X pins σ H s) (he : X.env = PySem.W.ksEnv q scope L f (.ref cda) cc) (F : SupF X.prog X.K f cda cc D slf) (hN : X.N[i]? = some slf) (hv : σ[i]? = some (some (.ref x))) (hx : H x = some (.ins C dx fs)) (hsub : PySem.W.mroIn X.K C (.ref D) = some true)
    (hat : (attr == ("__class__" : Str)) = false) (hks : scope.names.lookup ("super" : Str) = some .globalImplicit) (hkc : scope.names.lookup ("__class__" : Str) = some .free) (hka : scope.names.lookup slf = some .local) (hk : scope.kind = .function) (hboot : bootBuiltins "super" = some (.type "super")) :
    PySem.wpAt (model X.prog X.w) X.A (.func body X.env) (attributeBase (.Call (.Name "super" p0) [] [] p1) attr X.env whole)
      (fun u s' => ∃ so h', u = .ref so ∧ s' = { s with heap := h' } ∧ (∀ b o, s.heap.get? b = some o → h'.get? b = some o) ∧ h'.get? so = some (PySem.W.ks_superObj D x C)) no s := by
  obtain ⟨oc, od, fd, osl, ar, kf, hp, rfl⟩ := F.fd
  obtain ⟨ccl, cdd, vs, ccs, file, tf, kc, hvs, hfile⟩ := F.code
  obtain ⟨cl, cld, csl, kl⟩ := F.cell
  obtain ⟨cd, hD⟩ := F.cls
  have XK := I.kIn
  obtain ⟨mb, b1, b2⟩ := I.mod.blt
  obtain ⟨m, hns, hloc⟩ := I.loc
  have kself : X.env.kindOf ar.arg = some .local := by rw [he]; exact hka
  obtain ⟨u, ru, hu⟩ := hloc i ar.arg (.ref x) hN hv (.inl (by rw [he]; exact hka))
  have eu : u = .ref x := ru
  subst eu
  have hm : m ar.arg = some (.ref x) := by
    rcases hu with ⟨_, h⟩ | ⟨h, _⟩
    · exact h
    · rw [kself] at h; rcases h with h | h <;> cases h
  obtain ⟨_, _, _, hob, _⟩ := I.hok x _ hx
  obtain ⟨oD, hD1, hD2⟩ : ∃ oD, s.heap.get? D = some oD ∧ oD.data = .cls cd := by
    unfold PySem.W.clsIn at hD
    split at hD
    · rename_i c d cd' sl ho
      cases hD
      exact ⟨_, XK _ _ ho, rfl⟩
    · cases hD
  have hglob : s.heap.Ns X.env.globals X.mg := by rw [I.ok.glob]; exact I.mod.glob.keeps I.bk
  have hblt : s.heap.Ns X.env.builtins mb := by rw [I.ok.blt]; exact b1.keeps I.bk
  rw [he] at hns hglob hblt ⊢
  obtain ⟨hh, g, d, t, os⟩ := s
  refine PySem.ks_wpAt_super_base (env := PySem.W.ksEnv q scope L f (.ref cda) cc) hks hkc hat rfl (XK _ _ kf) rfl hp rfl (XK _ _ kc) rfl hvs hfile F.top ?_
  refine PySem.W.ks_loadName_global hk hks (Calls.loadGlobal_builtin (env := PySem.W.ksEnv q scope L f (.ref cda) cc) hglob (PySem.W.mg_none_of I.mod.kin I.mod.glob F.sup) hblt ((b2 "super" (by decide)).trans hboot) ⟨rfl, ?_⟩)
  refine wpAny_loadName_free hk hkc rfl ⟨_, XK _ _ kl, rfl⟩ ?_
  refine wpAny_loadName_local hk hka hns hm ?_
  refine PySem.ks_wpAny_isType_cls hD1 hD2 ⟨rfl, ?_⟩
  refine PySem.ks_wpAny_call_super hD1 hD2 hob rfl (fun c e => by cases e) (PySem.W.looks_mroIn XK hsub) (fun h' e k => ?_)
  exact ⟨_, h', rfl, rfl, k, e⟩
end

section
variable {P : Program} {w : World} {A : Around} {α : Type}
theorem at_grow {c : Code} {s : Shared} {t : Sem α} {R : α → Heap → Prop} (hb : AllBare s.gens) (h : PySem.wpAt (model P w) A c t (fun u sh => ∃ h' n, sh = { lulled s with heap := h', toks := n } ∧ R u h') no (lulled s)) :
    PySem.wpAt (Md P w) A c t (fun u s' => ∃ h' n, s' = { s with heap := h', toks := n } ∧ R u h') no s := by
  refine PySem.wpAt_mono (wpAt_bb hb h) (fun v s' ⟨_, sh, z, h', n, e2, r⟩ => ?_) fun _ _ ⟨_, _, _, z⟩ => z
  subst e2
  have g := zb_gens (s := s) z rfl
  obtain ⟨G, e3, _⟩ := z
  subst e3
  have g' : G = s.gens := g
  subst g'
  exact ⟨h', n, rfl, r⟩
theorem any_grow {s : Shared} {t : Sem α} {R : α → Heap → Prop} (hb : AllBare s.gens) (h : wpAny (model P w) A t (fun u sh => ∃ h' n, sh = { lulled s with heap := h', toks := n } ∧ R u h') no (lulled s)) :
    wpAny (Md P w) A t (fun u s' => ∃ h' n, s' = { s with heap := h', toks := n } ∧ R u h') no s := by
  refine wpAny_mono (wpAny_bb hb h) (fun v s' ⟨_, sh, z, h', n, e2, r⟩ => ?_) fun _ _ ⟨_, _, _, z⟩ => z
  subst e2
  have g := zb_gens (s := s) z rfl
  obtain ⟨G, e3, _⟩ := z
  subst e3
  have g' : G = s.gens := g
  subst g'
  exact ⟨h', n, rfl, r⟩
end
/-- what the head knows of a method that super() finds -/
structure SupM (K : PySem.W.Frag) (C D : Addr) (m : Str) (f2 : Addr) : Prop where
  sub : PySem.W.mroIn K C (.ref D) = some true
  at_ : PySem.W.ks_superIn K C D m = some (some (.ref f2))
  fn : PySem.W.fnIn K f2 = true
  ty : PySem.W.typeIn K (.ref f2) = some (.type "function")
section
variable {X : Cx} {pins : Pl} {σ : L2.St} {H : Hp} {s : Shared} {q slf : Str} {scope : Scope} {L f f2 cda cc D C x dx so : Addr} {fs : List (Str × V)} {i k n : Nat} {body : List Stmt} {p0 p1 pos apos : Pos} {m : Str} {pl : Sem Bool} {fd : FuncData} {ps ks : List Str} {sp : Sp} {dvs : List V} {ds : List Value}
theorem sup_get (I : Inv X pins σ H s) (opq : PySem.W.nsIn X.K cStatics "thirdparty.any" = some none) (M : SupM X.K C D m f2) (hx : H x = some (.ins C dx fs)) (hn : (m == ("__class__" : Str)) = false) (hso : s.heap.get? so = some (PySem.W.ks_superObj D x C)) :
    wpAny (model X.prog X.w) X.A (getMethod (.ref so) m pl) (fun r sh => ∃ h' n, sh = { s with heap := h', toks := n } ∧ r = (.ref s.heap.objs.size, []) ∧ h' = s.heap.push (PySem.W.methodObj (.ref f2) (.ref x))) no s := by
  have XK := I.kIn
  obtain ⟨_, _, _, hob, _⟩ := I.hok x _ hx
  have hm := M.at_
  cases hc : PySem.W.clsIn X.K C with
  | none => unfold PySem.W.ks_superIn at hm; rw [hc] at hm; cases hm
  | some cd =>
    unfold PySem.W.ks_superIn at hm
    rw [hc] at hm
    obtain ⟨of, hof, hofc⟩ : ∃ of, s.heap.get? f2 = some of ∧ of.cls = .type "function" := by
      have ht : (X.K.lookup f2).map (·.cls) = some (.type "function") := M.ty
      cases z : X.K.lookup f2 with
      | none => rw [z] at ht; cases ht
      | some of => rw [z] at ht; exact ⟨of, XK _ _ z, Option.some.inj ht⟩
    have hne : x ≠ C := by
      rintro rfl
      unfold PySem.W.clsIn at hc
      split at hc
      · rename_i c d cd' sl ho
        have e := XK _ _ ho
        rw [hob] at e
        cases e
      · cases hc
    obtain ⟨hh, g, d, t, os⟩ := s
    refine PySem.ks_wpAny_getMethod_super hso (PySem.W.looks_opaque XK opq) (l₀ := cd.mro) ?_ rfl XK hm hof hofc hne hn ⟨_, _, rfl, rfl, rfl⟩
    exact fun A Q E s k q => wpAny_bind ((PySem.W.looks_clsIn XK hc) A _ E s k (wpAny_pure q))
/-- up to the arguments -/
theorem sup_head {args : List Expr} {kws : List Keyword} {Q : Value → Shared → Prop} (I : In1 X pins σ H s) (he : X.env = PySem.W.ksEnv q scope L f (.ref cda) cc) (F : SupF X.prog X.K f cda cc D slf) (M : SupM X.K C D m f2) (hN : X.N[i]? = some slf) (hv : σ[i]? = some (some (.ref x))) (hx : H x = some (.ins C dx fs))
    (hat : (m == ("__class__" : Str)) = false) (hks : scope.names.lookup ("super" : Str) = some .globalImplicit) (hkc : scope.names.lookup ("__class__" : Str) = some .free) (hka : scope.names.lookup slf = some .local) (hk : scope.kind = .function) (hboot : bootBuiltins "super" = some (.type "super"))
    (ht : eval (.Call (.Attribute (.Call (.Name "super" p0) [] [] p1) m apos) args kws pos) X.env = (do
      let ov ← attributeBase (.Call (.Name "super" p0) [] [] p1) m X.env (eval (.Call (.Name "super" p0) [] [] p1) X.env)
      standAt apos.atName
      let (f, first) ← holding [ov] (getMethod ov m pl)
      callWith pos f first (backTo pos (starEach args X.env)) (backToKw pos (keywordEach kws X.env))))
    (h : ∀ b s', In1 X ((b, PySem.W.methodObj (.ref f2) (.ref x)) :: pins) σ H s' → wpAny (Md X.prog X.w) X.A (callWith pos (.ref b) [] (backTo pos (starEach args X.env)) (backToKw pos (keywordEach kws X.env))) Q no s') :
    PySem.wpAt (Md X.prog X.w) X.A (.func body X.env) (eval (.Call (.Attribute (.Call (.Name "super" p0) [] [] p1) m apos) args kws pos) X.env) Q no s := by
  rw [ht]
  have hb := sup_base (body := body) (p0 := p0) (p1 := p1) (attr := m) (whole := eval (.Call (.Name "super" p0) [] [] p1) X.env) (Inv.lulled I.inv) he F hN hv hx M.sub hat hks hkc hka hk hboot
  refine PySem.wpAt_bind (PySem.wpAt_mono (at_grow (R := fun u h' => ∃ so, u = .ref so ∧ (∀ b o, s.heap.get? b = some o → h'.get? b = some o) ∧ h'.get? so = some (PySem.W.ks_superObj D x C)) I.inv.bare (PySem.wpAt_mono hb (fun u sh ⟨so, h', e1, e2, kk, e3⟩ => ⟨h', (lulled s).toks, e2, so, e1, kk, e3⟩) fun _ _ z => z)) (fun u s1 ⟨h', n, e1, so, e2, kk, e3⟩ => ?_) fun _ _ z => z)
  subst e1 e2
  have I1 : In1 X pins σ H { s with heap := h', toks := n } := In1.kept I kk
  refine PySem.wpAt_of_wpAny (wpAny_bind (wpAny_standAt (wpAny_bind (wpAny_holding ?_))))
  refine mo (any_grow (R := fun r h2 => r = (.ref h'.objs.size, []) ∧ h2 = h'.push (PySem.W.methodObj (.ref f2) (.ref x))) I1.inv.bare (sup_get (s := lulled { s with heap := h', toks := n }) (Inv.lulled I1.inv) F.opq M hx hat e3)) fun r s2 ⟨h2, n2, e4, e5, e6⟩ => ?_
  subst e4 e5 e6
  have hp : (h'.push (PySem.W.methodObj (.ref f2) (.ref x))).get? h'.objs.size = some (PySem.W.methodObj (.ref f2) (.ref x)) := Heap.get?_push_size _ rfl
  have I2 : In1 X pins σ H { s with heap := h'.push (PySem.W.methodObj (.ref f2) (.ref x)), toks := n2 } := In1.kept (s := { s with heap := h', toks := n }) I1 fun b o e => Heap.get?_push_of_some _ e
  refine h h'.objs.size _ ⟨I2.inv.pins_of fun z hz => ?_, fun i k a c p fs cl e => ?_⟩
  · rcases List.mem_cons.mp hz with rfl | hz
    · exact ⟨hp, I1.inv.hok.fresh (Nat.le_refl _), Nat.ne_of_gt I1.inv.lt, I1.inv.nofs (Nat.le_refl _), fun v e => by cases e⟩
    · exact I2.inv.pin z (List.mem_append_right _ hz)
  · obtain ⟨o, ho, g⟩ := I2.told i k a c p fs cl e
    exact ⟨o, List.mem_cons_of_mem _ ho, g⟩
/-- the bound method's call -/
theorem sup_run {pins0 p1 : Pl} {b : Addr} {args : Args} {us : List Value} {vs : List V} {Q : VK} (F : FnMd X.prog X.w X.K X.mg X.base k f2 fd ps sp) (hr : Room k X.A) (I : In1 X p1 σ H s) (hs : Sub ((b, PySem.W.methodObj (.ref f2) (.ref x)) :: pins0) p1)
    (hb : ∀ s2 : Shared, s2.heap = s.heap → BindsTo s2 fd { args with pos := .ref x :: args.pos } (ps.zip us)) (r : Vals vs us) (h : sp vs H Q E0) : wpAny (Md X.prog X.w) X.A (call (.ref b) args.pos args.kw) (EP1 X pins0 σ Q) no s := by
  have hq := (I.inv.pin _ (List.mem_append_right _ (hs _ List.mem_cons_self))).1
  refine wpAny_call (md_bound hq (codeAny_mono (F.run X rfl rfl rfl rfl rfl X.A I.inv.ok.frames hr p1 σ H s _ us vs Q I hb r h) fun r s' hq => ?_))
  cases r with
  | error e => exact hq.elim
  | ok fl =>
    cases fl with
    | ret u => exact EP1.sub (fun z hz => hs z (List.mem_cons_of_mem _ hz)) hq
    | next => exact False.elim hq
    | brk => exact False.elim hq
    | cont => exact False.elim hq
end

/-! ### the def with the class's cell -/
structure PSsA (X : Cx) (body : List Stmt) (t : TS) : Prop where
  run : ∀ (pins : Pl) (s : Shared) (σ : L2.St) (H : Hp) (D : Ends), In1 X pins σ H s → t D σ H → PySem.wpAt (Md X.prog X.w) X.A (.func body X.env) (execs body X.env) (SP1 X pins D) no s
theorem fnS_md {P : Program} {w : World} {K : PySem.W.Frag} {mg : Str → Option Value} {base : Heap} {k : Nat} {f cc D : Addr} {name qual : Str} {params : Arguments} {body : List Stmt} {scope : Scope} {dV kV doc pm cdv ct oc cl : Value} {an od cld : Option Addr}
    {osl csl : Array (Option Value)} {N ps : List Str} {sp : Sp} (lk : K.lookup f = some ⟨oc, od, .func (PySem.W.ksFn name qual params body scope dV kV doc pm an cdv ct cc), osl⟩) (hcd : PySem.W.codeIn K cdv qual = true) (hcell : K.lookup cc = some ⟨cl, cld, .cell (some (.ref D)), csl⟩) (S : SupScope N ps scope) (len : ∀ vs H Q E, sp vs H Q E → vs.length = ps.length)
    (hbody : ∀ (A : Around) (outer : List Env) (s : Shared) (H : Hp) (vs : List V) (Q : VK), Room k (A.deeper (PySem.W.ksEnv qual scope s.heap.objs.size f cdv cc)) → (∀ b ∈ frs outer, b < s.heap.objs.size) → sp vs H Q E0 →
      ∃ t, PSsA (cxS P w K mg base N qual scope f cdv cc A outer s H) body t ∧ t { nx := fun _ H' => Q .non H', rt := Q } (L2.start N vs) H) :
    FnMd P w K mg base (k + 1) f (PySem.W.ksFn name qual params body scope dV kV doc pm an cdv ct cc) ps sp := by
  refine ⟨len, fun X hP hw hK hmg hbase A hA hr pins σ H s args us vs Q I0 hb r hsp => ?_⟩
  subst hP hw hK hmg hbase
  have hl := len _ _ _ _ hsp
  have ee := I0.inv.env0
  have e0 : Env0 X.prog X.w X.K X.mg X.base A X.stack s H := ⟨hA, ee.mod, ee.bs, ee.bsz, ee.funs, ee.frf, ee.hok, ee.bare⟩
  have KX := I0.inv.kIn
  have hloc : ∀ y ∈ ps.zip us, scope.names.lookup y.1 = some .local := fun ⟨n, v⟩ hy => S.par n (List.of_mem_zip hy).1
  refine md_function hr.depth (KX _ _ lk) rfl S.co S.gen rfl (PySem.W.codeRec_of KX hcd) (hb s rfl _ _ _ _ ?_)
  refine wpAny_newFunctionEnv S.noc hloc (fun h0 hns hsb => ?_) S.kind
  have hk : ∀ b o, s.heap.get? b = some o → h0.get? b = some o := fun b o e => hsb.extBut b o (Nat.ne_of_lt (Heap.lt_size e)) (Heap.get?_push_of_some _ e)
  refine ⟨I0.inv.nolimit.keeps hk, md_funcAt ?_⟩
  have hfr : ∀ b ∈ frs X.stack, b < s.heap.objs.size := fun b hb => by
    obtain ⟨_, o, ho, _⟩ := ee.funs.mem hb
    exact Heap.lt_size ho
  obtain ⟨t, ht, hq⟩ := hbody A X.stack s H vs Q (hr.deeper _) hfr hsp
  have I : Inv (cxS X.prog X.w X.K X.mg X.base N qual scope f cdv cc A X.stack s H) [] (L2.start N vs) H { s with heap := h0, toks := s.toks + (ps.zip us).length } := inv_startS S hr.hd e0 hl r hcell hns hk rfl
  have nst : ∀ p ∈ pins, p.1 ∉ frs X.stack := fun p hp hm => by
    have q := I0.inv.pin p (List.mem_append_right _ hp)
    rcases List.mem_cons.mp (I0.inv.stkSub p.1 hm) with z | z
    · exact q.2.2.1 z
    · exact q.2.2.2.1 z
  have I1 : In1 (cxS X.prog X.w X.K X.mg X.base N qual scope f cdv cc A X.stack s H) pins (L2.start N vs) H { s with heap := h0, toks := s.toks + (ps.zip us).length } := by
    refine ⟨I.pins_of fun p hp => ?_, fun i k a c p fs cl e => I0.told i k a c p fs cl e⟩
    have q := I0.inv.pin p (List.mem_append_right _ hp)
    exact ⟨hk _ _ q.1, q.2.1, Nat.ne_of_lt (Heap.lt_size q.1), nst p hp, q.2.2.2.2⟩
  refine PySem.wpAt_mono (ht.run pins _ (L2.start N vs) H _ I1 hq) (fun fl s' hs => ?_) fun _ _ z => z
  have fin : ∀ {p2 : Pl} {σ' : L2.St} {H' : Hp} {v : V} {u : Value}, In1 (cxS X.prog X.w X.K X.mg X.base N qual scope f cdv cc A X.stack s H) p2 σ' H' s' → RelV v u → Q v H' → EP1 X pins σ Q u s' :=
    fun {p2 σ' H' v u} J rv q => ep1_after I0 J.inv.os J.inv.bare J.inv.base J.inv.hok rv q (fun p hp => let z := J.inv.pin p (List.mem_append_right _ hp); ⟨z.1, z.2.1, z.2.2.2.1⟩) J.told
  cases fl with
  | ret u =>
    obtain ⟨p2, v, σ', H', _, J, rv, q⟩ := hs
    exact fin J rv q
  | next =>
    obtain ⟨p2, σ', H', _, J, q⟩ := hs
    exact fin (v := V.non) (u := Value.none) J rfl q
  | brk =>
    obtain ⟨_, _, _, _, _, q⟩ := hs
    exact False.elim q
  | cont =>
    obtain ⟨_, _, _, _, _, q⟩ := hs
    exact False.elim q
/-- a value that is asked at the def's own code -/
structure PEA (X : Cx) (body : List Stmt) (e : Expr) (te : TE) : Prop where
  run : ∀ (pins : Pl) (s : Shared) (σ : L2.St) (H : Hp) (Q : VK), In1 X pins σ H s → te σ H Q → PySem.wpAt (Md X.prog X.w) X.A (.func body X.env) (eval e X.env) (EP1 X pins σ Q) no s
section
variable {X : Cx} {e : Expr} {te : TE} {rest : List Stmt} {pos pos' : Pos}
theorem psa_ret (h : PEA X [.Return (some e) pos] e te) : PSsA X [.Return (some e) pos] (fun D σ H => te σ H D.rt) := by
  refine ⟨fun pins s σ H D I hq => ?_⟩
  refine ks_wpAt_execs_cons (ks_wpAt_Return_some (PySem.wpAt_mono (h.run pins s σ H _ I hq) (fun u s1 ⟨p1, v, H1, z, J, r, q⟩ => ?_) fun _ _ z => z))
  exact ⟨p1, v, σ, H1, z, J, r, q⟩
theorem psa_set {i : Nat} {x : Str} {tr : TS} (hx : Nox X) (hN : X.N.Nodup) (hi : X.N[i]? = some x) (hxl : X.env.scope.names.lookup x = some .local) (h : PEA X (.Assign [.Name x pos'] e pos :: rest) e te) (hr : PSs1 X rest tr) (hs : swapsWith e (some (.Name x pos')) pos.line X.env = pure false := by rfl) :
    PSsA X (.Assign [.Name x pos'] e pos :: rest) (fun D σ H => te σ H fun v H1 => gName i v σ H1 fun σ2 H2 => tr D σ2 H2) := by
  refine ⟨fun pins s σ H D I hq => ?_⟩
  refine ks_wpAt_execs_cons (ks_wpAt_Assign_Name (PySem.wpAt_mono (h.run pins s σ H _ I hq) (fun u s1 ⟨p1, v, H1, z, J, r, q⟩ => ?_) fun _ _ z => z) hs)
  refine mo (in1_stepH (A := X.A) (R := fun _ σ' H' _ => tr D σ' H') J (store_ok (s := lulled s1) (Inv.lulled J.inv) hN hi (.inl hxl) r (fun s2 I2 => ⟨_, H1, I2, q⟩) (.inr hxl))) fun _ s2 ⟨_, σ', H', J2, q2⟩ => ?_
  refine PySem.wpAt_of_wpAny (mo (hr.run p1 s2 σ' H' D J2 q2) fun fl s3 hf => ?_)
  cases fl with
  | next => obtain ⟨p2, σ3, H3, z2, r⟩ := hf; exact ⟨p2, σ3, H3, z.trans z2, r⟩
  | brk => obtain ⟨p2, σ3, H3, z2, r⟩ := hf; exact ⟨p2, σ3, H3, z.trans z2, r⟩
  | cont => obtain ⟨p2, σ3, H3, z2, r⟩ := hf; exact ⟨p2, σ3, H3, z.trans z2, r⟩
  | ret u => obtain ⟨p2, v3, σ3, H3, z2, r⟩ := hf; exact ⟨p2, v3, σ3, H3, z.trans z2, r⟩
theorem psa_expr {tr : TS} (h : PEA X (.Expr e pos :: rest) e te) (hr : PSs1 X rest tr) (hs : swapsWith e none pos.line X.env = pure false := by rfl) : PSsA X (.Expr e pos :: rest) (fun D σ H => te σ H fun v H1 => v = .non ∧ tr D σ H1) := by
  refine ⟨fun pins s σ H D I hq => ?_⟩
  refine ks_wpAt_execs_cons ?_
  rw [exec_Expr X.env e pos I.inv.quiet hs]
  refine PySem.wpAt_bind (PySem.wpAt_of_wpAny (wpAny_standAt (PySem.wpAt_bind (PySem.wpAt_mono (h.run pins s σ H _ I hq) (fun u s1 ⟨p1, v, H1, z, J, r, ev, q⟩ => ?_) fun _ _ z => z))))
  subst ev
  cases r
  have q' : PySem.wpAt (Md X.prog X.w) X.A (.func (.Expr e pos :: rest) X.env) (execs rest X.env) (SP1 X pins D) no s1 := by
    refine PySem.wpAt_of_wpAny (mo (hr.run p1 s1 σ H1 D J q) fun fl s3 hf => ?_)
    cases fl with
    | next => obtain ⟨p2, σ3, H3, z2, r⟩ := hf; exact ⟨p2, σ3, H3, z.trans z2, r⟩
    | brk => obtain ⟨p2, σ3, H3, z2, r⟩ := hf; exact ⟨p2, σ3, H3, z.trans z2, r⟩
    | cont => obtain ⟨p2, σ3, H3, z2, r⟩ := hf; exact ⟨p2, σ3, H3, z.trans z2, r⟩
    | ret u => obtain ⟨p2, v3, σ3, H3, z2, r⟩ := hf; exact ⟨p2, v3, σ3, H3, z.trans z2, r⟩
  cases e <;> exact PySem.wpAt_of_wpAny (wpAny_pure q')
end
/-! ### super().m(..) -/
section
variable {M : Model} {A : Around} {E : Value → Shared → Prop} {s : Shared} {K : PySem.W.Frag} {env : Env} {pos : Pos} {q g : Addr} {me : Value} {first : List Value} {Q : Value → Shared → Prop} {e : Expr} {es : List Expr} {kws : List Keyword}
theorem cw_meth (hf : PySem.W.fnIn K g = true) (h : wpAny M A (spliced (backTo pos (starEach (e :: es) env))) (fun vs s1 => PySem.W.MethP K q g me s1.heap ∧ wpAny M A (call (.ref q) (first ++ vs)) Q E s1) E s)
    (he : starEach (e :: es) env = (false, eval e env) :: starEach es env) (hplain : (backTo pos (starEach es env)).any (·.1) = false) : wpAny M A (callWith pos (.ref q) first (backTo pos (starEach (e :: es) env)) []) Q E s := by
  rw [he] at h ⊢
  exact PySem.W.callWith_of (by show ((false || (backTo pos (starEach es env)).any (·.1)) || false) = false; rw [hplain]; rfl) (PySem.W.keeps_M hf) (PySem.Calls.evalArgs_plain h)
theorem cw_methK (hf : PySem.W.fnIn K g = true) (hall : (backToKw pos (keywordEach kws env)).all (·.1.isSome) = true)
    (h : wpAny M A (spliced (backTo pos (starEach (e :: es) env))) (fun vs s1 => wpAny M A (evalAll ((backToKw pos (keywordEach kws env)).map (·.2))) (fun ks s2 => PySem.W.MethP K q g me s2.heap ∧ wpAny M A (call (.ref q) (first ++ vs) (((backToKw pos (keywordEach kws env)).filterMap (·.1)).zip ks)) Q E s2) E s1) E s)
    (hplain : ((backTo pos (starEach (e :: es) env)).any (·.1) || (backToKw pos (keywordEach kws env)).any (·.1.isNone)) = false) (he : starEach (e :: es) env = (false, eval e env) :: starEach es env) : wpAny M A (callWith pos (.ref q) first (backTo pos (starEach (e :: es) env)) (backToKw pos (keywordEach kws env))) Q E s :=
  PySem.W.callWith_of hplain (PySem.W.keeps_M hf) (PyProof.Rows.evalArgs_kw2 hall h he)
end
section
variable {X : Cx} {q slf : Str} {scope : Scope} {L f f2 cda cc D C : Addr} {i k n : Nat} {body : List Stmt} {p0 p1 pos apos : Pos} {m : Str} {pl : Sem Bool} {fd : FuncData} {ps ks : List Str} {sp : Sp} {e : Expr} {es : List Expr} {kws : List Keyword} {t tk : TA} {g : List Value → List Value → List Value} {gV : List V → List V → List V}
/-- what stands around: the frame, the head's facts, the scope's names -/
structure SupW (X : Cx) (q : Str) (scope : Scope) (L f cda cc D : Addr) (slf : Str) (i : Nat) : Prop where
  env : X.env = PySem.W.ksEnv q scope L f (.ref cda) cc
  F : SupF X.prog X.K f cda cc D slf
  hN : X.N[i]? = some slf
  ks : scope.names.lookup ("super" : Str) = some .globalImplicit
  kc : scope.names.lookup ("__class__" : Str) = some .free
  ka : scope.names.lookup slf = some .local
  kk : scope.kind = .function
abbrev tSup (C : Addr) (i : Nat) (sp : Sp) (t : TA) : TE := fun σ H Q => ∃ x dx fs, σ[i]? = some (some (.ref x)) ∧ H x = some (.ins C dx fs) ∧ t σ H fun vs H1 => sp (.ref x :: vs) H1 Q E0
abbrev tSupK (C : Addr) (i n m : Nat) (sp : Sp) (gV : List V → List V → List V) (t tk : TA) : TE := fun σ H Q => ∃ x dx fs, σ[i]? = some (some (.ref x)) ∧ H x = some (.ins C dx fs) ∧ t σ H fun vs H1 => tk σ H1 fun zs H2 => vs.length = n ∧ zs.length = m ∧ sp (gV (.ref x :: vs) zs) H2 Q E0
theorem superT : bootBuiltins "super" = some (.type "super") := by rfl
/-- super().m() -/
theorem pea_sup0 (W : SupW X q scope L f cda cc D slf i) (M : SupM X.K C D m f2) (F : FnMd X.prog X.w X.K X.mg X.base k f2 fd ps sp) (hr : Room k X.A) (hb : Binds X.K fd ps []) (hat : (m == ("__class__" : Str)) = false := by decide)
    (ht : eval (.Call (.Attribute (.Call (.Name "super" p0) [] [] p1) m apos) [] [] pos) X.env = (do
      let ov ← attributeBase (.Call (.Name "super" p0) [] [] p1) m X.env (eval (.Call (.Name "super" p0) [] [] p1) X.env)
      standAt apos.atName
      let (f, first) ← holding [ov] (getMethod ov m pl)
      callWith pos f first (backTo pos (starEach [] X.env)) (backToKw pos (keywordEach [] X.env))) := by rfl) : PEA X body (.Call (.Attribute (.Call (.Name "super" p0) [] [] p1) m apos) [] [] pos) (tSup C i sp tNil) := by
  refine ⟨fun pins s σ H Q I ⟨x, dx, fs, hv, hx, hq⟩ => ?_⟩
  refine sup_head I W.env W.F M W.hN hv hx hat W.ks W.kc W.ka W.kk superT ht fun b s' I' => ?_
  have hp := (I'.inv.pin _ (List.mem_append_right _ List.mem_cons_self)).1
  refine PySem.W.callWith_M0 (K := X.K) ⟨hp, I'.inv.kIn⟩ M.fn ?_
  have hl : [Value.ref x].length = ps.length := F.len _ _ _ _ hq
  exact sup_run (args := ⟨[], []⟩) (us := [Value.ref x]) F hr I' (.refl _) (fun s2 e2 => by have := hb s2 [Value.ref x] (by rw [e2]; exact I'.inv.kIn) hl; simpa using this) (show Vals [V.ref x] [Value.ref x] from .cons rfl .nil) hq
/-- super().m(e, ..) -/
theorem pea_sup (W : SupW X q scope L f cda cc D slf i) (M : SupM X.K C D m f2) (F : FnMd X.prog X.w X.K X.mg X.base k f2 fd ps sp) (hr : Room k X.A) (hb : Binds X.K fd ps []) (ha : PA1 X (e :: es) t) (hat : (m == ("__class__" : Str)) = false := by decide)
    (he : starEach (e :: es) X.env = (false, eval e X.env) :: starEach es X.env := by rfl) (hpl : (backTo pos (starEach es X.env)).any (·.1) = false := by rfl)
    (ht : eval (.Call (.Attribute (.Call (.Name "super" p0) [] [] p1) m apos) (e :: es) [] pos) X.env = (do
      let ov ← attributeBase (.Call (.Name "super" p0) [] [] p1) m X.env (eval (.Call (.Name "super" p0) [] [] p1) X.env)
      standAt apos.atName
      let (f, first) ← holding [ov] (getMethod ov m pl)
      callWith pos f first (backTo pos (starEach (e :: es) X.env)) (backToKw pos (keywordEach [] X.env))) := by rfl) : PEA X body (.Call (.Attribute (.Call (.Name "super" p0) [] [] p1) m apos) (e :: es) [] pos) (tSup C i sp t) := by
  refine ⟨fun pins s σ H Q I ⟨x, dx, fs, hv, hx, hq⟩ => ?_⟩
  refine sup_head I W.env W.F M W.hN hv hx hat W.ks W.kc W.ka W.kk superT ht fun b s' I' => ?_
  refine cw_meth (K := X.K) (g := f2) (me := .ref x) M.fn (mo (ha.run pos _ s' σ H _ I' hq) fun us s1 ⟨p1, vs, H1, z1, I1, r, q1⟩ => ?_) he hpl
  have hp := (I1.inv.pin _ (List.mem_append_right _ (z1 _ List.mem_cons_self))).1
  refine ⟨⟨hp, I1.inv.kIn⟩, ?_⟩
  have r2 : Vals (V.ref x :: vs) (Value.ref x :: us) := .cons rfl r
  have hl : (Value.ref x :: us).length = ps.length := by rw [← r2.length]; exact F.len _ _ _ _ q1
  exact sup_run (args := ⟨us, []⟩) (us := Value.ref x :: us) F hr I1 z1 (fun s2 e2 => by have := hb s2 (Value.ref x :: us) (by rw [e2]; exact I1.inv.kIn) (by simpa using hl); simpa using this) r2 q1
/-- super().m(e, .., k = v, ..) -/
theorem pea_supK (hx0 : Nox X) (W : SupW X q scope L f cda cc D slf i) (M : SupM X.K C D m f2) (F : FnMd X.prog X.w X.K X.mg X.base k f2 fd ps sp) (hr : Room k X.A) (hb : KBn X.K fd ps (n + 1) ks g gV) (ha : PA1 X (e :: es) t) (hkw : PK X kws tk) (hat : (m == ("__class__" : Str)) = false := by decide)
    (hall : (backToKw pos (keywordEach kws X.env)).all (·.1.isSome) = true := by rfl) (hks : (backToKw pos (keywordEach kws X.env)).filterMap (·.1) = ks := by rfl)
    (he : starEach (e :: es) X.env = (false, eval e X.env) :: starEach es X.env := by rfl) (hpl : ((backTo pos (starEach (e :: es) X.env)).any (·.1) || (backToKw pos (keywordEach kws X.env)).any (·.1.isNone)) = false := by rfl)
    (ht : eval (.Call (.Attribute (.Call (.Name "super" p0) [] [] p1) m apos) (e :: es) kws pos) X.env = (do
      let ov ← attributeBase (.Call (.Name "super" p0) [] [] p1) m X.env (eval (.Call (.Name "super" p0) [] [] p1) X.env)
      standAt apos.atName
      let (f, first) ← holding [ov] (getMethod ov m pl)
      callWith pos f first (backTo pos (starEach (e :: es) X.env)) (backToKw pos (keywordEach kws X.env))) := by rfl) : PEA X body (.Call (.Attribute (.Call (.Name "super" p0) [] [] p1) m apos) (e :: es) kws pos) (tSupK C i n ks.length sp gV t tk) := by
  refine ⟨fun pins s σ H Q I ⟨x, dx, fs, hv, hx, hq⟩ => ?_⟩
  refine sup_head I W.env W.F M W.hN hv hx hat W.ks W.kc W.ka W.kk superT ht fun b s' I' => ?_
  refine cw_methK (K := X.K) (g := f2) (me := .ref x) M.fn hall (mo (ha.run pos _ s' σ H _ I' hq) fun us s1 ⟨p1, vs, H1, z1, I1, r, q1⟩ => ?_) hpl he
  refine mo (in1_stepH (A := X.A) (R := fun ws σ' H' _ => σ' = σ ∧ ∃ zs, Vals zs ws ∧ vs.length = n ∧ zs.length = ks.length ∧ sp (gV (.ref x :: vs) zs) H' Q E0) I1
    (wpAny_mono (hkw.run pos p1 (lulled s1) σ H1 _ (Inv.lulled I1.inv) q1) (fun ws sh ⟨zs, H2, J, rz, q2⟩ => ⟨σ, H2, J, rfl, zs, rz, q2⟩) fun _ _ z => hx0 _ _ z)) fun ws s2 ⟨_, σ', H2, J, e1, zs, rz, l1, l2, q2⟩ => ?_
  subst e1
  have hp := (J.inv.pin _ (List.mem_append_right _ (z1 _ List.mem_cons_self))).1
  refine ⟨⟨hp, J.inv.kIn⟩, ?_⟩
  rw [hks]
  have r2 : Vals (V.ref x :: vs) (Value.ref x :: us) := .cons rfl r
  have n1 : (Value.ref x :: us).length = n + 1 := by rw [← r2.length, List.length_cons, l1]
  exact sup_run (args := ⟨us, ks.zip ws⟩) (us := g (Value.ref x :: us) ws) F hr J z1 (fun s3 e3 => by have := hb.to s3 (Value.ref x :: us) ws (by rw [e3]; exact J.inv.kIn) n1 (rz.length.symm.trans l2); simpa using this) (hb.rel r2 rz) q2
end
end Gk
/-! Tally. -/
namespace Tn
open PySem PySem.Spec PyProof.Rows L2 Gk
/-! ### a def with the class's cell -/
/-- what the head knows of a def of class D that says super() -/
structure FunS (prog : Program) (K : PySem.W.Frag) (x qual : Str) (params : Arguments) (body : List Stmt) (scope : Scope) (kws : List (Str × V)) (slf : Str) (D f : Addr) (fd : FuncData) : Prop where
  ex : ∃ (oc : Value) (od : Option Addr) (dV kV doc pm : Value) (an : Option Addr) (cda : Addr) (ct : Value) (cc : Addr) (osl : Array (Option Value)) (cl : Value) (cld : Option Addr) (csl : Array (Option Value)),
    fd = PySem.W.ksFn x qual params body scope dV kV doc pm an (.ref cda) ct cc ∧ K.lookup f = some ⟨oc, od, .func fd, osl⟩ ∧ PySem.W.codeIn K (.ref cda) qual = true ∧ DflV K dV [] ∧ KwdV K kV kws ∧ K.lookup cc = some ⟨cl, cld, .cell (some (.ref D)), csl⟩ ∧
    ∃ ccl cdd vs ccs file tf, K.lookup cda = some ⟨ccl, cdd, .fields vs, ccs⟩ ∧ vs[2]? = some (.str file tf) ∧ ((prog.main.file : Str) == file) = true
  hp : ∃ ar, (params.posonlyargs ++ params.args).head? = some ar ∧ ar.arg = slf
  cls : ∃ cd, PySem.W.clsIn K D = some cd
  sup : PySem.W.nsIn K mainGlobals "super" = some none
  top : (prog.main.scope.names.lookup ("super" : Str)).isSome = false
  opq : PySem.W.nsIn K cStatics "thirdparty.any" = some none
theorem own_of {l : List (Str × NameKind)} (h : ∀ p ∈ l, (p.2 = .cell ∨ p.2 = .free) → p.1 = ("__class__" : Str)) (x : Str) (hx : l.lookup x = some .cell ∨ l.lookup x = some .free) : x = ("__class__" : Str) := by
  rcases hx with e | e
  · obtain ⟨p, q, r⟩ := List.lookup_eq_some_iff.mp e
    exact h (x, .cell) (by rw [r.1]; simp) (.inl rfl)
  · obtain ⟨p, q, r⟩ := List.lookup_eq_some_iff.mp e
    exact h (x, .free) (by rw [r.1]; simp) (.inr rfl)
section
variable {P : Program} {w : World} {K : PySem.W.Frag} {mg : Str → Option Value} {base : Heap} {x qual slf : Str} {params : Arguments} {body : List Stmt} {scope : Scope} {kws : List (Str × V)} {D f : Addr} {fd : FuncData}
theorem fn_mdS {N ps : List Str} {sp : Sp} {k : Nat} (F : FunS P K x qual params body scope kws slf D f fd) (S : SupScope N ps scope) (len : ∀ vs H Q E, sp vs H Q E → vs.length = ps.length)
    (hbody : ∀ (cda cc : Addr) (A : Around) (outer : List Env) (s : Shared) (H : Hp) (vs : List V) (Q : VK), SupF P K f cda cc D slf → Room k (A.deeper (PySem.W.ksEnv qual scope s.heap.objs.size f (.ref cda) cc)) → sp vs H Q E0 →
      ∃ t, PSsA (cxS P w K mg base N qual scope f (.ref cda) cc A outer s H) body t ∧ t { nx := fun _ H' => Q .non H', rt := Q } (L2.start N vs) H) : FnMd P w K mg base (k + 1) f fd ps sp := by
  obtain ⟨oc, od, dV, kV, doc, pm, an, cda, ct, cc, osl, cl, cld, csl, rfl, lk, hcd, _, _, hcell, hcode⟩ := F.ex
  obtain ⟨ar, h1, h2⟩ := F.hp
  exact fnS_md lk hcd hcell S len fun A outer s H vs Q hr _ hsp => hbody cda cc A outer s H vs Q ⟨⟨oc, od, _, osl, ar, lk, h1, h2⟩, hcode, ⟨cl, cld, csl, hcell⟩, F.cls, F.sup, F.top, F.opq⟩ hr hsp
theorem FunS.bindsN {ps : List Str} (F : FunS P K x qual params body scope kws slf D f fd)
    (h : ∀ (kV doc pm : Value) (an : Option Addr) (cdv ct : Value) (cc : Addr) (us : List Value), us.length = ps.length → bindArgs (PySem.W.ksFn x qual params body scope .none kV doc pm an cdv ct cc) ⟨us, []⟩ = pure (ps.zip us)) : L2.Binds K fd ps [] := by
  obtain ⟨oc, od, dV, kV, doc, pm, an, cda, ct, cc, osl, cl, cld, csl, rfl, lk, hcd, hD, _, hcell, hcode⟩ := F.ex
  rcases hD with ⟨_, rfl⟩ | ⟨e, _⟩
  · exact .all (h kV doc pm an (.ref cda) ct cc)
  · exact absurd rfl e
theorem FunS.kbinds {ps : List Str} (F : FunS P K x qual params body scope kws slf D f fd) (n : Nat) (ks : List Str)
    (h : ∀ (kV doc pm : Value) (an : Option Addr) (cdv ct : Value) (cc : Addr) (us ws : List Value), us.length = n → ws.length = ks.length → bindArgs (PySem.W.ksFn x qual params body scope .none kV doc pm an cdv ct cc) ⟨us, ks.zip ws⟩ = pure (ps.zip (us ++ ws))) : KBn K fd ps n ks (fun us ws => us ++ ws) (fun vs zs => vs ++ zs) := by
  obtain ⟨oc, od, dV, kV, doc, pm, an, cda, ct, cc, osl, cl, cld, csl, rfl, lk, hcd, hD, _, hcell, hcode⟩ := F.ex
  rcases hD with ⟨_, rfl⟩ | ⟨e, _⟩
  · exact ⟨fun s us ws X l1 l2 => BindsTo.of_looks fun M => .of_pure (h kV doc pm an (.ref cda) ct cc us ws l1 l2), fun r1 r2 => r1.append r2⟩
  · exact absurd rfl e
end
abbrev FnMS (P : Program) (K : PySem.W.Frag) (x qual : Str) (st : Stmt) (kws : List (Str × V)) (D f : Addr) (fd : FuncData) : Prop := FunS P K x qual (defArgs st) (defBody st) (defScope st) kws "self" D f fd
abbrev nTD : List Str := ["self", "owner"]
abbrev nTM : List Str := ["self", "count"]
abbrev nTI : List Str := ["self", "tree", "at", "owner"]
theorem scTD : SupScope nTD ["self"] (defScope (tI 1)) := ⟨rfl, rfl, rfl, by decide +kernel, rfl, by decide +kernel, own_of (by decide +kernel), by decide +kernel⟩
theorem scTM : SupScope nTM ["self", "count"] (defScope (tI 2)) := ⟨rfl, rfl, rfl, by decide +kernel, rfl, by decide +kernel, own_of (by decide +kernel), by decide +kernel⟩
theorem scTI : SupScope nTI ["self", "tree", "at"] (defScope (tI 0)) := ⟨rfl, rfl, rfl, by decide +kernel, rfl, by decide +kernel, own_of (by decide +kernel), by decide +kernel⟩
theorem scTC : FnScope ["self"] ["self"] (defScope (tI 3)) := ⟨rfl, rfl, rfl, by decide +kernel, rfl, by decide +kernel, by decide +kernel⟩
/-! ### a tally in the heap -/
abbrev CntOk (kvs : List (Key × V)) (ss : List Str) (cnt : Str → Nat) : Prop := kvs.length ≤ 100 ∧ ∀ s ∈ ss, valV kvs (.inr s) = some (.int (cnt s))
def TalH (CT r got dx : Addr) (v pl : V) (z : Nat) (ss : List Str) (cnt : Str → Nat) (H : Hp) : Prop := H r = some (.ins CT dx (fsR v pl z [("got", .ref got)])) ∧ ∃ kvs, H got = some (.dK kvs) ∧ CntOk kvs ss cnt
theorem putK_old {kvs : List (Key × V)} {k : Key} {u : V} (v : V) (h : valV kvs k = some u) : (putK kvs k v).length = kvs.length := by
  unfold putK
  rw [valV_any, h]
  rw [if_pos (by rfl), List.length_map]
theorem CntOk.put {kvs : List (Key × V)} {ss : List Str} {cnt : Str → Nat} {n : Str} {i : Int} (h : CntOk kvs ss cnt) (hn : n ∈ ss) (hi : i = ((cnt n + 1 : Nat) : Int)) : CntOk (putK kvs (.inr n) (.int i)) ss (fun s => cnt s + if n = s then 1 else 0) := by
  refine ⟨by rw [putK_old _ (h.2 n hn)]; exact h.1, fun s hs => ?_⟩
  rw [valV_put]
  by_cases e : s = n
  · subst e
    rw [if_pos rfl, hi]
    simp
  · rw [if_neg (fun z => e (by injection z)), h.2 s hs]
    simp [Ne.symm e]
def spTD (K : PySem.W.Frag) (p gg gs CT : Addr) : Sp := fun vs H Q _ => ∃ (r got dx : Addr) (v pl : V) (z : Nat) (t : Pt.Tr) (ss : List Str) (cnt : Str → Nat), vs = [.ref r] ∧ TalH CT r got dx v pl z ss cnt H ∧ RC K p gg gs CT ∧ (z : Int) + 1 ≤ most ∧ TrAt H v t ∧ t.fit 2 ∧ t.own z ∈ ss ∧
  ∀ H', ExS (fun b => b = r ∨ b = got) H H' → TalH CT r got dx v pl (z + 1) ss (fun s => cnt s + if t.own z = s then 1 else 0) H' → Q (.str (t.own z)) H'
def spTC (K : PySem.W.Frag) (p gg gs CT : Addr) : Sp := fun vs H Q _ => ∃ (r got dx : Addr) (v pl : V) (z : Nat) (ss : List Str) (cnt : Str → Nat), vs = [.ref r] ∧ TalH CT r got dx v pl z ss cnt H ∧ RC K p gg gs CT ∧ ∀ q kvs, H q = none → CntOk kvs ss cnt → Q (.ref q) (upd H q (.dK kvs))
def spTI (K : PySem.W.Frag) (p gg gs CT : Addr) : Sp := fun vs H Q _ => ∃ (x dx : Addr) (v : V) (t : Pt.Tr) (z : Nat), vs = [.ref x, v, .int z] ∧ H x = some (.ins CT dx []) ∧ RC K p gg gs CT ∧ TrAt H v t ∧ t.fit 2 ∧ (z : Int) ≤ most ∧
  ∀ (got : Addr) (pl : V) (ss : List Str) H', ExO x H H' → got ≠ x → H got = none → TalH CT x got dx v pl z ss (fun _ => 0) H' → (∀ k, k ∈ ss ↔ ∃ e ∈ t.ends 0 1, e.2.2 = k) → Q .non H'
theorem hu_of {k : Nat} {A : Around} (hr : Room k A) : A.units + 1 < cLine := by have := hr.units; omega
section
variable {P : Program} {w : World} {K : PySem.W.Frag} {mg : Str → Option Value} {base : Heap} {p gg gs CT f fDeal fDm fInit fOwn fOwners fEnds : Addr} {fd fdDeal fdDm fdSet fdOwn fdInit fdOwners fdEnds : FuncData}
theorem ok_td (F : FnMS P K "deal" "Tally.deal" (tI 1) [] CT f fd) (M : SupM K CT CT "deal" fDeal) (FDeal : FnM K "deal" "Run.deal" (rI 5) [] fDeal fdDeal) (FSet : FnM K "at" "Run.at" (rI 3) [] gs fdSet) (FOwn : FnP K "owner_of" sOwn fOwn fdOwn) (gLen : mg "len" = none) (gIsi : mg "isinstance" = none) (gStr : mg "str" = none) (gOwn : mg "owner_of" = some (.ref fOwn)) :
    FnMd P w K mg base 7 f fd ["self"] (spTD K p gg gs CT) := by
  have GDeal : FnMd P w K mg base 6 fDeal fdDeal ["self"] (spDeal K p gg gs) := FnOk.md (ok_deal FDeal FSet FOwn gLen gIsi gStr gOwn)
  have bDeal : L2.Binds K fdDeal ["self"] [] := FDeal.bindsN fun _ _ _ _ _ _ us hl => match us, hl with | [_], _ => rfl
  refine fn_mdS F scTD (fun vs H Q E h => ?_) (fun cda cc A outer s H vs Q SF hr h => ⟨_, psa_set (i := 1) (fun _ _ z => z) scTD.nd rfl rfl (pea_sup0 (i := 0) (slf := "self") ⟨rfl, SF, rfl, rfl, rfl, rfl, rfl⟩ M GDeal hr bDeal) (pss_cons1 (PS.up (fun _ _ z => z) (ps_daug (hu_of hr) (pe_fld (pv 0) rfl) (pv 1) pe_int in_add (fun _ _ _ => rfl)))
        (pss_one1 (ps_ret1 (PE.up (fun _ _ z => z) (pv 1))))), ?_⟩)
  · obtain ⟨r, got, dx, v, pl, z, t, ss, cnt, rfl, _⟩ := h
    rfl
  · obtain ⟨r, got, dx, v, pl, z, t, ss, cnt, rfl, ⟨hr0, kvs, hg, hk⟩, c, hz, hT, hf, hm, hQ⟩ := h
    have ne : got ≠ r := by rintro rfl; rw [hr0] at hg; cases hg
    refine ⟨r, dx, _, rfl, hr0, r, CT, dx, v, pl, z, _, t, rfl, hr0, c, rfl, by show 1 < 100; decide, hz, hT, hf, ?_⟩
    have e1 : upd H r (.ins CT dx (fsR v pl (z + 1 : Nat) [("got", .ref got)])) got = some (.dK kvs) := by rw [upd_ne ne]; exact hg
    refine ⟨_, rfl, r, CT, dx, _, .ref got, rfl, upd_same, c.cls, c.nG, rfl, _, rfl, got, .int (cnt (t.own z)), rfl, ?_, ?_⟩
    · have q := DGet.k (k := .inr (t.own z)) e1
      rw [hk.2 _ hm] at q
      exact q
    refine ⟨_, _, rfl, rfl, _, DPut.k (k := .inr (t.own z)) e1 (Evl.sz_lt (by have := hk.1; omega)), ?_⟩
    refine ⟨_, rfl, hQ _ (fun b o hb e => ?_) ⟨?_, _, upd_same, CntOk.put hk hm (by push_cast; rfl)⟩⟩
    · rw [upd_ne (fun z => hb (.inr z)), upd_ne (fun z => hb (.inl z))]; exact e
    · rw [upd_ne ne.symm, upd_same]
theorem ok_tdm {spD : Sp} (F : FnMS P K "deal_many" "Tally.deal_many" (tI 2) [] CT f fd) (M : SupM K CT CT "deal_many" fDm) (GDm : FnMd P w K mg base 9 fDm fdDm ["self", "count"] (spDm CT spD)) (bDm : L2.Binds K fdDm ["self", "count"] []) :
    FnMd P w K mg base 10 f fd ["self", "count"] (spDm CT spD) := by
  refine fn_mdS F scTM (fun vs H Q E h => ?_) (fun cda cc A outer s H vs Q SF hr h => ⟨_, psa_ret (pea_sup (i := 0) (slf := "self") ⟨rfl, SF, rfl, rfl, rfl, rfl, rfl⟩ M GDm hr bDm (pa_cons1 (PE.up (fun _ _ z => z) (pv 1)) pa_nil1)), ?_⟩)
  · obtain ⟨r, z, n, St, S, a, rfl, _⟩ := h
    rfl
  · obtain ⟨r, z, n, St, S, a, rfl, hn, h0, hz, D0, hQ⟩ := h
    obtain ⟨dx, v, pl, rest, hr0, _⟩ := D0.at_ 0 H h0
    exact ⟨r, dx, _, rfl, hr0, _, rfl, r, z, n, St, S, a, rfl, hn, h0, hz, D0, hQ⟩
theorem ok_tc (F : FnM K "counts" "Tally.counts" (tI 3) [] f fd) (gDict : mg "dict" = none) : FnOk P w K mg base CX0 1 f fd ["self"] (spTC K p gg gs CT) := by
  refine F.ok scTC (fun vs H Q E h => ?_) (fun cdv A outer s H vs Q E hr h => ⟨_, PSs.nox (pss_one (ps_ret (pe_callTy call_dictD (by rfl) gDict PyProof.Rows.boot_dict (pa_cons (pe_fld (pv 0) rfl) pa_nil)))), ?_⟩)
  · obtain ⟨r, got, dx, v, pl, z, ss, cnt, rfl, _⟩ := h
    rfl
  · obtain ⟨r, got, dx, v, pl, z, ss, cnt, rfl, ⟨hr0, kvs, hg, hk⟩, c, hQ⟩ := h
    exact ⟨_, rfl, r, CT, dx, _, .ref got, rfl, hr0, c.cls, c.nG, rfl, got, kvs, rfl, .inl hg, fun q hq => hQ q kvs hq hk⟩
end
end Tn
/-! Tally(tree, at = ..). -/
namespace Tn
open PySem PySem.Spec PyProof.Rows L2 Gk
section
variable {P : Program} {w : World} {K : PySem.W.Frag} {mg : Str → Option Value} {base : Heap} {p gg gs CT f fInit fOwners fEnds : Addr} {fd fdSet fdInit fdOwners fdEnds : FuncData}
theorem ok_ti (F : FnMS P K "__init__" "Tally.__init__" (tI 0) [("at", .int 0)] CT f fd) (M : SupM K CT CT "__init__" fInit) (FInit : FnM K "__init__" "Run.__init__" (rI 1) [("at", .int 0)] fInit fdInit) (FSet : FnM K "at" "Run.at" (rI 3) [] gs fdSet) (FOwners : FnP K "owners" sOwners fOwners fdOwners) (FEnds : FnPD K "ends" sEnds [.int 0, .int 1] fEnds fdEnds) (gLen : mg "len" = none) (gIsi : mg "isinstance" = none) (gStr : mg "str" = none) (gEnum : mg "enumerate" = none) (gList : mg "list" = none) (gSorted : mg "sorted" = none) (gEnds : mg "ends" = some (.ref fEnds)) (gOwners : mg "owners" = some (.ref fOwners)) :
    FnMd P w K mg base 12 f fd ["self", "tree", "at"] (spTI K p gg gs CT) := by
  have GInit : FnMd P w K mg base 11 fInit fdInit ["self", "tree", "at"] (spInit K p gg gs) := ok_init FInit FSet FEnds gLen gIsi gStr gEnum gList gEnds
  obtain ⟨g, bInit⟩ := init_b FInit
  have GOwners : FnMd P w K mg base 8 fOwners fdOwners ["tree"] spOwners := ok_owners FOwners FEnds gLen gIsi gStr gEnum gSorted gEnds
  have bOwners : L2.Binds K fdOwners ["tree"] [] := FOwners.bindsN fun _ _ _ _ _ _ us hl => match us, hl with | [_], _ => rfl
  refine fn_mdS F scTI (fun vs H Q E h => ?_) (fun cda cc A outer s H vs Q SF hr h => ⟨_, psa_expr (pea_supK (n := 1) (i := 0) (slf := "self") (fun _ _ z => z) ⟨rfl, SF, rfl, rfl, rfl, rfl, rfl⟩ M GInit hr bInit (pa_cons1 (PE.up (fun _ _ z => z) (pv 1)) pa_nil1) (pk_cons (pv 2) pk_nil)) (pss_one1 (ps_fld1 (fun _ _ z => z) (PE.up (fun _ _ z => z) (pv 0)) (pe_dc1 (own := [("owner", 3)]) (g := gName 3) (tt := tYes) (fun _ _ z => z) scTI.nd (pi_list1 rfl (pe_call1 GOwners (hr.mono (by decide)) rfl gOwners FOwners.kp bOwners .nil (PA.up (fun _ _ z => z) (pa_cons (pv 1) pa_nil)))) (blkOk_by (N := nTI) (sc := defScope (tI 0)) (by decide +kernel)) (by decide +kernel) (fun _ _ _ _ _ => (pg_name (i := 3) scTI.nd rfl (Or.inl rfl))) (fun _ _ _ _ _ => pts_nil) (fun _ _ _ _ _ => (PE.up (fun _ _ z => z) (pv 3))) (fun _ _ _ _ _ => (PE.up (fun _ _ z => z) pe_int))) rfl)), ?_⟩)
  · obtain ⟨x, dx, v, t, z, rfl, _⟩ := h
    rfl
  · obtain ⟨x, dx, v, t, z, rfl, hx, c, hT, hf, hz, hQ⟩ := h
    refine ⟨x, dx, _, rfl, hx, _, rfl, _, rfl, rfl, rfl, x, CT, dx, v, t, z, rfl, hx, c, hT, hf, hz, fun pl H1 x1 hx1 => ⟨rfl, ?_⟩⟩
    have u1 : ExtU H H1 := fun a vs h => x1 a _ (by rintro rfl; rw [hx] at h; cases h) h
    have hT1 := TrAt.up u1 _ _ hT
    refine ⟨_, rfl, v, t, rfl, hT1, hf, fun q ss H2 hq x2 hss nd mem hl => ⟨q, rfl, ⟨_, .inl (.inl hss)⟩, fun D hD => ?_⟩⟩
    refine comp_list1 (xs := ss.map V.str) (fun i H' => Evl.Ex H2 H' ∧ ∃ kvs : List (Key × V), H' D = some (.dK kvs) ∧ kvs.length ≤ i ∧ ∀ s ∈ ss.take i, valV kvs (.inr s) = some (.int 0)) ?_ ?_ ?_ ?_ ?_
    · rintro i H3 H4 x ⟨a, kvs, b, b2⟩
      exact ⟨a.trans x, kvs, x _ _ b, b2⟩
    · exact ⟨Evl.Ex.new hD, [], upd_same, Nat.le_refl _, fun s hs => by simp at hs⟩
    · rintro i H3 _ ⟨a, _⟩
      exact .inl (.inl (a _ _ hss))
    · rintro i y H3 hy ⟨a, kvs, b, b1, b2⟩
      obtain ⟨s, hs, rfl⟩ : ∃ s, ss[i]? = some s ∧ y = V.str s := by
        rw [List.getElem?_map] at hy
        cases e : ss[i]? with
        | none => rw [e] at hy; cases hy
        | some s => rw [e] at hy; exact ⟨s, rfl, (Option.some.inj hy).symm⟩
      have hi := (List.getElem?_eq_some_iff.mp hs).1
      refine ⟨rfl, t_yes ⟨_, rfl, kvs, .inr s, rfl, b, Evl.sz_lt (by omega), a.mut hD, _, upd_same, ?_, fun k hk => ?_⟩⟩
      · exact Nat.le_trans (length_putK _ _ _) (by omega)
      · rw [valV_put]
        rw [List.take_succ, hs] at hk
        simp only [Option.toList_some, List.mem_append, List.mem_singleton] at hk
        by_cases e : k = s
        · rw [e, if_pos rfl]
        · rw [if_neg (fun z => e (by injection z))]
          exact b2 k (hk.resolve_right e)
    · rintro H3 ⟨a, kvs, b, b1, b2⟩
      have hx3 : H3 x = some (.ins CT dx (fsR v pl z [])) := a _ _ (x2 _ _ hx1)
      have nD : D ≠ x := fun e => by rw [← e] at hx1; have := x2 _ _ hx1; rw [hD] at this; cases this
      have hnD : H D = none := by
        cases e : H D with
        | none => rfl
        | some o => have := x2 _ _ (x1 D o nD e); rw [hD] at this; cases this
      refine ⟨_, rfl, x, CT, dx, _, rfl, hx3, c.cls, c.nG, by show 3 < 1000; decide, ?_⟩
      refine hQ D pl ss _ (fun b o hb e => ?_) nD hnD ⟨upd_same, kvs, ?_, ?_, fun s hs => b2 s ?_⟩ mem
      · rw [upd_ne hb]
        exact a _ _ (x2 _ _ (x1 b o hb e))
      · rw [upd_ne nD]; exact b
      · rw [List.length_map] at b1; omega
      · rw [List.length_map, List.take_length]; exact hs
end
end Tn
/-! Generators whose consumer keeps more and more. -/
namespace Gk
open PySem PySem.Spec PyProof.Rows L2
open Sem (wp)

/-! ### what the consumer keeps may grow -/
abbrev TMono (T : Hp → Prop) : Prop := ∀ H H', ExtL H H' → T H → T H'
abbrev GX.wt (G : GX) (T : Hp → Prop) : GX := ⟨G.P, G.w, G.K, G.mg, G.base, G.k, G.N, G.qual, G.scope, G.fa, G.cd, G.L, G.g, T⟩
section
variable {G : GX} {W : Wk} {own : Pl} {σ : L2.St} {H : Hp} {s : Shared} {T : Hp → Prop}
theorem GX.Ok.wt (ok : G.Ok) (tm : TMono T) : (G.wt T).Ok := ⟨ok.mod, ok.kind, ok.cells, ok.nocell, ok.bL, fun H H' e => tm H H' e.toL⟩
theorem GX.Ok.top (ok : G.Ok) : (G.wt fun _ => True).Ok := ok.wt fun _ _ _ h => h
theorem Wk.Ok.wt (w : W.Ok G) : W.Ok (G.wt T) := ⟨w.room, w.frames, w.frs, w.lt⟩
theorem Wk.Ok.unwt (w : W.Ok (G.wt T)) : W.Ok G := ⟨w.room, w.frames, w.frs, w.lt⟩
theorem Rn.wt (r : Rn G W own σ H s) (h : T H) : Rn (G.wt T) W own σ H s := ⟨r.inv, r.apart, r.ext, h, r.sz, r.gz⟩
theorem Rn.unwt (r : Rn (G.wt T) W own σ H s) (h : G.T H) : Rn G W own σ H s := ⟨r.inv, r.apart, r.ext, h, r.sz, r.gz⟩
theorem Rn.top (r : Rn (G.wt T) W own σ H s) : Rn (G.wt fun _ => True) W own σ H s := ⟨r.inv, r.apart, r.ext, trivial, r.sz, r.gz⟩
theorem Pre.top {X : Cx} {lo it g : Nat} {fp : Pl} {gp : Gl1} {pins : Pl} (p : Pre X lo T it g fp gp pins σ H s) : Pre X lo (fun _ => True) it g fp gp pins σ H s := ⟨p.inv, p.fpok, p.gens, p.obj, trivial⟩
end
/-- what a generator still hands out; T: what is kept for it now -/
def GdV (P : Program) (w : World) (K : PySem.W.Frag) (mg : Str → Option Value) (base : Heap) (k : Nat) (it : Addr) (g : Nat) (lo : Addr) : (Hp → Prop) → List Item → Pl → Gl1 → Prop
  | T, [], fp, gp => (∀ p ∈ fp, lo ≤ p.1) ∧ (∀ q ∈ gp, g ≤ q.1) ∧ ∀ (X : Cx), Host P w K mg base k lo X → ∀ (pins : Pl) (σ : L2.St) (H : Hp) (s : Shared) (Q : Option Value → Shared → Prop) (E : Value → Shared → Prop), Pre X lo T it g fp gp pins σ H s →
      (∀ e fp' H' s', StopX e s'.heap → Post X fp pins σ H s fp' H' s' → E e s') → wpAny (Md P w) X.A (callSpecial? (.ref it) "__next__") Q E s
  | T, x :: xs, fp, gp => (∀ p ∈ fp, lo ≤ p.1) ∧ (∀ q ∈ gp, g ≤ q.1) ∧ ∀ (X : Cx), Host P w K mg base k lo X → ∀ (pins : Pl) (σ : L2.St) (H : Hp) (s : Shared) (Q : Option Value → Shared → Prop) (E : Value → Shared → Prop), Pre X lo T it g fp gp pins σ H s →
      (∀ (T' : Hp → Prop), TMono T' → ∀ u v fp' gp' H' s', T' H' → RelV v u → x v H' → Post X fp pins σ H s fp' H' s' → GOk gp' s' → Sus gp' → GdV P w K mg base k it g lo T' xs fp' gp' → Q (some u) s') → wpAny (Md P w) X.A (callSpecial? (.ref it) "__next__") Q E s
/-- how a stretch ends -/
def PhV (G : GX) : List Item → Wk → Fi
  | [], W => fun e s => e = .ret (.ok (.ret .none)) ∧ ∃ own σ H, Rn G W own σ H s
  | x :: xs, W => fun e s => ∃ (v : Value) (kk : Resume → Sem PySem.Fin) (lv : List Value) (c : Code) (p : Pos) (fs0 : List Frame) (v' : V) (own : Pl) (gp : Gl1) (σ : L2.St) (H : Hp) (T : Hp → Prop), TMono T ∧
      e = .susp v false lv (fun r => uy c (kk r)) c p (fs0.map uyF) ∧ fs0.any Frame.guarded = false ∧ RelV v' v ∧ x v' H ∧ Rn (G.wt T) W own σ H s ∧ GOk gp s ∧ (∀ q ∈ gp, G.g < q.1) ∧ Sus gp ∧ (∀ a, lv = [.ref a] → TP own a) ∧
      ∀ W' : Wk, W'.Ok G → ∀ s' H', Rn (G.wt T) W' own σ H' s' → GOk gp s' → Sg G.P G.w (PhV G xs W') W'.A c (kk (.send .none)) fs0 s'
def ResV (G : GX) (T : Hp → Prop) (xs : List Item) (gs : GenState) (own : Pl) (gp : Gl1) (σ : L2.St) : Prop :=
  ∀ W : Wk, W.Ok G → ∀ s H, Rn (G.wt T) W own σ H s → GOk gp s → Going G.P G.w (PhV G xs W) W.A gs s
/-- THE RULE: a frame whose entry goes on so hands out xs -/
theorem gd_ofV {G : GX} (ok : G.Ok) {it : Addr} : ∀ (xs : List Item) {T : Hp → Prop} (tm : TMono T) {σL : L2.St} {oL : Obj} {own : Pl} {gs : GenState} {gp : Gl1}, LocOk G σL oL → (∀ p ∈ own, G.L < p.1) → (∀ q ∈ gp, G.g < q.1) → gs ≠ .running → gs ≠ .finished →
    ResV G T xs gs own gp σL → GdV G.P G.w G.K G.mg G.base (G.k + 1) it G.g G.L T xs ((G.L, oL) :: own) ((G.g, gs) :: gp) := by
  intro xs
  induction xs with
  | nil =>
    intro T tm σL oL own gs gp hL hown hgp h1 h2 res
    refine ⟨fun p hp => ?_, fun q hq => ?_, fun X ho pins σ H s Q E pre hE => ?_⟩
    · rcases List.mem_cons.mp hp with e | hp
      · rw [e]; exact Nat.le_refl _
      · exact Nat.le_of_lt (hown p hp)
    · rcases List.mem_cons.mp hq with e | hq
      · rw [e]; exact Nat.le_refl _
      · exact Nat.le_of_lt (hgp q hq)
    · obtain ⟨l, hl, wok, r⟩ := rn_of_pre (G := G.wt T) (ok.wt tm) hL hown ho pre (Array.getElem?_eq_some_iff.mp (pre.gens (G.g, gs) List.mem_cons_self)).1
      obtain ⟨o, hit, hg0⟩ := pre.obj
      have hgs : s.gens[G.g]? = some gs := pre.gens (G.g, gs) List.mem_cons_self
      refine md_next (Ph := PhV G [] (wkOf X s H l pins)) ho.room.hd pre.inv.inv.nolimit ho.room.depth hit hg0 hgs (res _ wok.unwt _ _ r (gOk_set (fun q hq => pre.gens q (List.mem_cons_of_mem _ hq)) fun q hq => Nat.ne_of_gt (hgp q hq))) fun e s1 he hz => ?_
      obtain ⟨rfl, own', σ', H', r1⟩ := he
      refine ⟨rfl, rfl, fun ev h' hS hk hsz => ?_⟩
      obtain ⟨oL', loc', post⟩ := post_of (G := G.wt fun _ => True) (s2 := { s1.setGen G.g .finished with heap := h' }) ok.top ho pre.top hl r1.top rfl hk hsz (allBare_setGen r1.inv.inv.bare rfl) (told_set r1.inv.told fun _ _ _ _ _ _ z => by cases z)
      exact hE ev _ H' _ hS post
  | cons x xs ih =>
    intro T tm σL oL own gs gp hL hown hgp h1 h2 res
    refine ⟨fun p hp => ?_, fun q hq => ?_, fun X ho pins σ H s Q E pre hQ => ?_⟩
    · rcases List.mem_cons.mp hp with e | hp
      · rw [e]; exact Nat.le_refl _
      · exact Nat.le_of_lt (hown p hp)
    · rcases List.mem_cons.mp hq with e | hq
      · rw [e]; exact Nat.le_refl _
      · exact Nat.le_of_lt (hgp q hq)
    · obtain ⟨l, hl, wok, r⟩ := rn_of_pre (G := G.wt T) (ok.wt tm) hL hown ho pre (Array.getElem?_eq_some_iff.mp (pre.gens (G.g, gs) List.mem_cons_self)).1
      obtain ⟨o, hit, hg0⟩ := pre.obj
      have hgs : s.gens[G.g]? = some gs := pre.gens (G.g, gs) List.mem_cons_self
      refine md_next (Ph := PhV G (x :: xs) (wkOf X s H l pins)) ho.room.hd pre.inv.inv.nolimit ho.room.depth hit hg0 hgs (res _ wok.unwt _ _ r (gOk_set (fun q hq => pre.gens q (List.mem_cons_of_mem _ hq)) fun q hq => Nat.ne_of_gt (hgp q hq))) fun e s1 he hz => ?_
      obtain ⟨v, kk, lv, c, p, fs0, v', own', gp', σ', H', T2, tm2, rfl, hng, rv, hx, r1, g1, hgp', hsus, htl, next⟩ := he
      have hq : (End.susp v false lv (fun r => uy c (kk r)) c p (fs0.map uyF)).quiet = true := by
        show (!(false || (fs0.map uyF).any Frame.guarded)) = true
        rw [uyF_any, hng]; rfl
      refine ⟨hq, ?_⟩
      have hbare := End.bare_of_quiet hq
      have hgl : G.g < s1.gens.size := Nat.lt_of_lt_of_le (Array.getElem?_eq_some_iff.mp hgs).1 hz
      obtain ⟨oL', loc', post⟩ := post_of (G := G.wt fun _ => True) (s2 := s1.setGen G.g (End.susp v false lv (fun r => uy c (kk r)) c p (fs0.map uyF)).genState) ok.top ho pre.top hl r1.top rfl (fun _ _ z => z) (Nat.le_refl _) (allBare_setGen r1.inv.inv.bare hbare)
        (told_set r1.inv.told fun k a c p fs cl e => by
          have e2 : lv = [.ref a] := by
            have e' : GenState.suspended _ lv _ _ _ _ = _ := e
            injection e' with _ e3
          obtain ⟨o, hm, hg⟩ := htl a e2
          exact ⟨o, List.mem_append_left _ hm, hg⟩)
      refine hQ T2 tm2 v v' _ ((G.g, (End.susp v false lv (fun r => uy c (kk r)) c p (fs0.map uyF)).genState) :: gp') H' _ r1.tt rv hx post (fun q hq => ?_) (fun q hq => ?_) ?_
      · rcases List.mem_cons.mp hq with e | hq
        · subst e
          show (s1.gens.setIfInBounds G.g _)[G.g]? = _
          rw [Array.getElem?_setIfInBounds_self_of_lt hgl]
        · exact gOk_set g1 (fun q hq => Nat.ne_of_gt (hgp' q hq)) q hq
      · rcases List.mem_cons.mp hq with e | hq
        · subst e; exact ⟨_, _, _, _, _, _, rfl⟩
        · exact hsus q hq
      · refine ih tm2 loc' (fun p hp => (r1.apart p hp).1) hgp' (fun z => by cases z) (fun z => by cases z) fun W wo s' H2 r2 g2 => ?_
        exact ⟨kk, fs0, rfl, rfl, next W wo s' H2 r2 g2⟩
end Gk
/-! Its call; «yield from» over it. -/
namespace Gk
open PySem PySem.Spec PyProof.Rows L2
open Sem (wp)
theorem tm_and {T U : Hp → Prop} (h : TMono T) (k : TMono U) : TMono fun H => T H ∧ U H := fun H H' e q => ⟨h H H' e q.1, k H H' e q.2⟩
/-- a generator that was just made -/
structure FreshV (X : Cx) (k : Nat) (T : Hp → Prop) (items : List Item) (pins : Pl) (σ : L2.St) (H : Hp) (s : Shared) (it : Addr) (g : Nat) (lo : Addr) (o : Obj) (fp : Pl) (gp : Gl1) (s' : Shared) : Prop where
  gd : GdV X.prog X.w X.K X.mg X.base k it g lo T items fp gp
  inv : In1 X (fp ++ (it, o) :: pins) σ H s'
  fpok : ∀ p ∈ fp, FpOk X ((it, o) :: pins) H p.1
  itok : FpOk X pins H it
  gens : GOk gp s'
  obj : Gen0 o g
  los : s.heap.objs.size ≤ lo
  lit : lo ≤ it
  gs : s.gens.size ≤ g
  sz : s.heap.objs.size ≤ s'.heap.objs.size
  gz : s.gens.size ≤ s'.gens.size
  told : Told (TP pins) s'
  tt : T H
  tm : TMono T
def MadeV (X : Cx) (k : Nat) (T : Hp → Prop) (items : List Item) (pins : Pl) (σ : L2.St) (H : Hp) (s : Shared) (u : Value) (s' : Shared) : Prop :=
  ∃ it g lo o fp gp, u = .ref it ∧ FreshV X k T items pins σ H s it g lo o fp gp s'
structure GFnV (P : Program) (w : World) (K : PySem.W.Frag) (mg : Str → Option Value) (base : Heap) (k : Nat) (f : Addr) (fd : FuncData) (ps : List Str) (sp : SpG1) : Prop where
  len : ∀ vs H T items, sp vs H T items → vs.length = ps.length
  run : ∀ (X : Cx), X.prog = P → X.w = w → X.K = K → X.mg = mg → X.base = base → Room 1 X.A → ∀ (pins : Pl) (σ : L2.St) (H : Hp) (s : Shared) (args : Args) (us : List Value) (vs : List V) (T : Hp → Prop) (items : List Item),
    In1 X pins σ H s → BindsTo s fd args (ps.zip us) → Vals vs us → sp vs H T items → codeAny (Md P w) X.A (.call (.ref f) args) (fun r s' => match r with | .ok (.ret u) => MadeV X k T items pins σ H s u s' | _ => False) s

theorem gfnV_of {P : Program} {w : World} {K : PySem.W.Frag} {mg : Str → Option Value} {base : Heap} {k : Nat} {f : Addr} {name qual : Str} {params : Arguments} {body : List Stmt} {scope : Scope} {dV kV doc pm cdv ct oc : Value} {an od : Option Addr}
    {osl : Array (Option Value)} {N ps : List Str} {sp : SpG1} (lk : K.lookup f = some ⟨oc, od, .func (PySem.W.fnOf name qual params body scope dV kV doc pm an cdv ct), osl⟩) (hcd : PySem.W.codeIn K cdv qual = true) (S : GScope N ps scope)
    (hcel : ∀ n, cellsFrom n scope.names [] = []) (hnc : ∀ x, scope.names.lookup x ≠ some .cell ∧ scope.names.lookup x ≠ some .free) (tm : ∀ vs H T items, sp vs H T items → T H ∧ TMono T)
    (len : ∀ vs H T items, sp vs H T items → vs.length = ps.length)
    (hbody : ∀ (L : Addr) (g : Nat) (vs : List V) (H : Hp) (T : Hp → Prop) (items : List Item), GX.Ok ⟨P, w, K, mg, base, k, N, qual, scope, f, cdv, L, g, T⟩ → sp vs H T items →
      ResV ⟨P, w, K, mg, base, k, N, qual, scope, f, cdv, L, g, T⟩ T items (.fresh (.func body (envOfC qual scope L f cdv))) [] [] (start N vs)) :
    GFnV P w K mg base (k + 1) f (PySem.W.fnOf name qual params body scope dV kV doc pm an cdv ct) ps sp := by
  refine ⟨len, fun X hP hw hK hmg hbase hr pins σ H s args us vs T items I hb r hsp => ?_⟩
  subst hP hw hK hmg hbase
  have hl := len _ _ _ _ hsp
  have e0 := I.inv.env0
  have hkind : ∀ y ∈ ps.zip us, scope.names.lookup y.1 = some .local ∨ (scope.names.lookup y.1 = some .cell ∧ ((cellsFrom (s.heap.objs.size + 1) scope.names []).lookup y.1).isSome = true) := fun ⟨n, v⟩ hy => by
    rcases S.par n (List.of_mem_zip hy).1 with q | q
    · exact .inl q
    · exact .inr ⟨q, PySem.W.cellsFrom_some _ _ _ (.inl q)⟩
  refine md_gencall hr.depth (I.inv.kIn _ _ lk) rfl S.co S.gen rfl (PySem.W.codeRec_of I.inv.kIn hcd) (hb _ _ _ _ ?_)
  refine wpAny_newFunctionEnv_cells S.kind hkind fun env he s1 x => ?_
  subst he
  have lim1 : s1.heap.NoLimit := I.inv.nolimit.keeps x.toInCall.keep
  refine ⟨lim1, ?_⟩
  obtain ⟨h1, tk, es1, hk1⟩ := x.done
  have J := inv_startG (E := fun _ _ _ => False) S hr.hd e0 hl r x
  have lt1 : s.heap.objs.size < s1.heap.objs.size := x.toInCall.ns.lt
  let G : GX := ⟨X.prog, X.w, X.K, X.mg, X.base, k, N, qual, scope, f, cdv, s.heap.objs.size, s.gens.size, T⟩
  have gok : G.Ok := ⟨I.inv.ok.mod, S.kind, hcel _, hnc, Nat.le_trans I.inv.ok.bsz I.inv.sz, fun H1 H2 e => (tm _ _ _ _ hsp).2 H1 H2 e.toL⟩
  -- the frame's object
  obtain ⟨oL, hoL, locL⟩ : ∃ oL, s1.heap.get? s.heap.objs.size = some oL ∧ LocOk G (start N vs) oL := by
    obtain ⟨m, ⟨o, es, ep, ho, hd, hk, hf⟩, hlv⟩ := J.loc
    refine ⟨o, ho, m, es, ep, hd, hk, hf, J.len, fun i y v e1 e2 e3 => ?_⟩
    obtain ⟨u, rv, l⟩ := hlv i y v e1 e2 e3
    refine ⟨u, rv, ?_⟩
    rcases l with ⟨k, e⟩ | ⟨k, _⟩
    · exact ⟨k, e⟩
    · rcases k with k | k
      · exact absurd k (hnc y).1
      · exact absurd k (hnc y).2
  have gen1 : s1.gens = s.gens := by rw [es1]
  have res : ResV G T items (.fresh (.func body (envOfC qual scope s.heap.objs.size f cdv))) [] [] (start N vs) := hbody s.heap.objs.size s.gens.size vs H T items gok hsp
  have gd := gd_ofV gok (it := s1.heap.objs.size) items (tm _ _ _ _ hsp).2 locL (own := []) (gp := []) (fun _ z => nomatch z) (fun _ z => nomatch z) (by intro z; cases z) (by intro z; cases z) res
  let o : Obj := { cls := .type "generator", data := .fields #[.int s1.gens.size 0, .str name s1.toks, .str qual (s1.toks + 1)] }
  have kp : ∀ b ob, s.heap.get? b = some ob → (s1.heap.push o).get? b = some ob := fun b ob e => Heap.get?_push_of_some _ (x.toInCall.keep b ob e)
  have hn1 : H s1.heap.objs.size = none := I.inv.hok.fresh (Nat.le_of_lt lt1)
  have hnL : H s.heap.objs.size = none := I.inv.hok.fresh (Nat.le_refl _)
  have itok : FpOk X pins H s1.heap.objs.size := I.inv.fpOk (Nat.le_of_lt lt1) hn1
  have Lok : FpOk X pins H s.heap.objs.size := I.inv.fpOk (Nat.le_refl _) hnL
  have I1 : Inv X pins σ H { s with heap := s1.heap.push o } := I.inv.kept kp
  have I2 : In1 X pins σ H { s1 with gens := s1.gens.push (.fresh (.func body (envOfC qual scope s.heap.objs.size f cdv))), toks := s1.toks + 1 + 1, heap := s1.heap.push o } :=
    ⟨Inv.other I1 rfl (by show s1.os = s.os; rw [es1]) (by show AllBare (s1.gens.push _); rw [gen1]; exact allBare_push I.inv.bare), told_push I.told (by show s1.gens.push _ = _; rw [gen1])⟩
  refine ⟨s1.heap.objs.size, s.gens.size, s.heap.objs.size, o, _, _, rfl, gd, ⟨I2.inv.pins_of fun p hp => ?_, Told.mono I2.told (TP.mono fun p hp => List.mem_cons_of_mem _ (List.mem_cons_of_mem _ hp))⟩, fun p hp => ?_, itok, fun q hq => ?_, ⟨rfl, ⟨_, _, by rw [← gen1]⟩, .inl rfl⟩, Nat.le_refl _, Nat.le_of_lt lt1, Nat.le_refl _, ?_, ?_, I2.told, (tm _ _ _ _ hsp).1, (tm _ _ _ _ hsp).2⟩
  · rcases List.mem_cons.mp hp with rfl | hp
    · exact ⟨Heap.get?_push_of_some _ hoL, hnL, Lok.2.1, Lok.2.2.1, fun v z => by obtain ⟨m, es, ep, d, _⟩ := locL; rw [show oL.data = _ from z] at d; cases d⟩
    · rcases List.mem_cons.mp hp with rfl | hp
      · exact ⟨Heap.get?_push_size _ rfl, hn1, itok.2.1, itok.2.2.1, fun v z => by cases z⟩
      · exact I2.inv.pin p (List.mem_append_right _ hp)
  · rcases List.mem_cons.mp hp with rfl | hp
    · refine ⟨Lok.1, Lok.2.1, Lok.2.2.1, Lok.2.2.2.1, Lok.2.2.2.2.1, fun q hq => ?_⟩
      rcases List.mem_append.mp hq with hq | hq
      · exact Lok.2.2.2.2.2 q (List.mem_append_left _ hq)
      · rcases List.mem_cons.mp hq with rfl | hq
        · exact Nat.ne_of_gt lt1
        · exact Lok.2.2.2.2.2 q (List.mem_append_right _ hq)
    · exact nomatch hp
  · rcases List.mem_cons.mp hq with rfl | hq
    · show (s1.gens.push _)[s.gens.size]? = _
      rw [gen1, Array.getElem?_push_size]
      rfl
    · exact nomatch hq
  · show s.heap.objs.size ≤ (s1.heap.push o).objs.size
    rw [Heap.size_push]
    exact Nat.le_succ_of_le (Nat.le_of_lt lt1)
  · show s.gens.size ≤ (s1.gens.push _).size
    rw [gen1, Array.size_push]
    exact Nat.le_succ _
section
variable {G : GX} {W : Wk} {own1 : Pl} {σ : L2.St} {H : Hp} {s : Shared} {it gc lo : Nat} {kc : Nat} {Tc : Hp → Prop} {fp : Pl} {gp : Gl1} {o : Obj} {A' : Around} {x : Item} {xs : List Item}
abbrev GdcV (G : GX) (kc : Nat) (it gc lo : Nat) (Tc : Hp → Prop) (items : List Item) (fp : Pl) (gp : Gl1) : Prop := GdV G.P G.w G.K G.mg G.base kc it gc lo Tc items fp gp
theorem yf_itemV (ok : G.Ok) (wok : W.Ok G) (y : YfOk G W kc Tc it gc lo own1 A') (gd : GdcV G kc it gc lo Tc (x :: xs) fp gp) (r : Rn G W (fp ++ (it, o) :: own1) σ H s) (g : GOk gp s) (hg : Gen0 o gc) (hd : ∀ p ∈ fp, p.1 ≠ it ∧ ∀ q ∈ own1, q.1 ≠ p.1) :
    wpAny (Md G.P G.w) A' (callSpecial? (.ref it) "__next__") (fun rr s' => ∃ T' u v fp' gp' H', rr = some u ∧ TMono T' ∧ T' H' ∧ RelV v u ∧ x v H' ∧ Rn G W (fp' ++ (it, o) :: own1) σ H' s' ∧ GOk gp' s' ∧ Sus gp' ∧ GdcV G kc it gc lo T' xs fp' gp' ∧ ∀ p ∈ fp', p.1 ≠ it ∧ ∀ q ∈ own1, q.1 ≠ p.1) no s := by
  obtain ⟨ho, pre⟩ := yf_pre ok wok y r g hg hd
  obtain ⟨_, _, run⟩ := gd
  refine wpAny_mono (wpAny_gsz1 (Nat.le_refl _) (run { G.cx W with A := A' } ho _ σ H s (fun rr s' => ∃ T' u v fp' gp' H', rr = some u ∧ TMono T' ∧ T' H' ∧ RelV v u ∧ x v H' ∧ Post { G.cx W with A := A' } fp ((it, o) :: own1 ++ W.tl) σ H s fp' H' s' ∧ GOk gp' s' ∧ Sus gp' ∧ GdcV G kc it gc lo T' xs fp' gp') no pre fun T' tm' u v fp' gp' H' s' ht' rv hx po g' su gd' => ⟨T', u, v, fp', gp', H', rfl, tm', ht', rv, hx, po, g', su, gd'⟩)) ?_ fun _ _ z => z.2
  rintro rr s' ⟨hz, T', u, v, fp', gp', H', e, tm', ht', rv, hx, po, g', su, gd'⟩
  obtain ⟨r', d'⟩ := yf_post ok wok y r po hz
  exact ⟨T', u, v, fp', gp', H', e, tm', ht', rv, hx, r', g', su, gd', d'⟩
theorem yf_stopV (ok : G.Ok) (wok : W.Ok G) (y : YfOk G W kc Tc it gc lo own1 A') (gd : GdcV G kc it gc lo Tc [] fp gp) (r : Rn G W (fp ++ (it, o) :: own1) σ H s) (g : GOk gp s) (hg : Gen0 o gc) (hd : ∀ p ∈ fp, p.1 ≠ it ∧ ∀ q ∈ own1, q.1 ≠ p.1) :
    wpAny (Md G.P G.w) A' (callSpecial? (.ref it) "__next__") (fun _ _ => False) (fun e s' => StopX e s'.heap ∧ ∃ fp' H', Rn G W (fp' ++ (it, o) :: own1) σ H' s') s := by
  obtain ⟨ho, pre⟩ := yf_pre ok wok y r g hg hd
  obtain ⟨_, _, run⟩ := gd
  refine wpAny_mono (wpAny_gsz1 (Nat.le_refl _) (run { G.cx W with A := A' } ho _ σ H s (fun _ _ => False) (fun e s' => ∃ fp' H', StopX e s'.heap ∧ Post { G.cx W with A := A' } fp ((it, o) :: own1 ++ W.tl) σ H s fp' H' s') pre fun e fp' H' s' hS po => ⟨fp', H', hS, po⟩)) (fun _ _ z => z.2) ?_
  rintro e s' ⟨hz, fp', H', hS, po⟩
  exact ⟨hS, fp', H', (yf_post ok wok y r po hz).1⟩
end
section
variable {G : GX} {own1 : Pl} {σ : L2.St} {it gc lo : Nat} {kc : Nat} {rest : List Item} {fs : List Frame}
theorem yf_turnsV (ok : G.Ok) (hgc : G.g < gc) (hit : ∀ q ∈ own1, q.1 ≠ it) (tmG : TMono G.T) (hy : ∀ W : Wk, W.Ok G → Room kc (W.A.over (yfC it) fs) ∧ (W.A.over (yfC it) fs).frames = some (G.env :: W.outer) ∧ G.L < lo) (hsp : splitAtGen fs = none) (hgd : fs.any Frame.guarded = false)
    (hend : ∀ W : Wk, W.Ok G → ∀ own' s H, Sub own1 own' → Rn G W own' σ H s → Sg G.P G.w (PhV G rest W) W.A (yfC it) (.pure (.done (.ret .none))) fs s) :
    ∀ (items : List Item) (Tc : Hp → Prop) (tmc : TMono Tc) (W : Wk), W.Ok G → ∀ (s : Shared) (H : Hp) (fp : Pl) (gp : Gl1) (o : Obj), GdcV G kc it gc lo Tc items fp gp → Rn (G.wt fun H => G.T H ∧ Tc H) W (fp ++ (it, o) :: own1) σ H s → GOk gp s → Gen0 o gc → (∀ p ∈ fp, p.1 ≠ it ∧ ∀ q ∈ own1, q.1 ≠ p.1) →
      Sg G.P G.w (PhV G (items ++ rest) W) W.A (yfC it) (denote table (yfC it)) fs s := by
  intro items
  induction items with
  | nil =>
    intro Tc tmc W wok s H fp gp o gd r g hg hd
    rw [den_yf1 (G.cx W)]
    unfold Builtin.«proto.yield_from»
    try dsimp only
    refine sg_bind (wpAny_pure ?_)
    try dsimp only
    refine sg_bind (wpAny_attempt (wpAny_holding ?_))
    rw [if_neg Bool.false_ne_true, if_pos (show (Value.none == Value.none) = true from rfl)]
    refine wpAny_bind (wpAny_rule (wpAny_bind ?_))
    refine wpAny_mono (yf_stopV (G := G.wt fun H => G.T H ∧ Tc H) (ok.wt (tm_and tmG tmc)) wok.wt ⟨(hy W wok).1, (hy W wok).2.1, fun _ h => h.2, (hy W wok).2.2⟩ gd r g hg hd) (fun _ _ z => z.elim) ?_
    rintro e s' ⟨⟨a, oe, vs, rfl, hoa, hcls, hdat, h5⟩, fp', H', r'⟩
    try dsimp only
    refine sg_bind (wpAny_endsTurn hoa hcls ?_)
    try dsimp only
    rw [if_pos rfl]
    first
      | refine sg_bind (wpAny_rule ?_)
      | (rw [if_neg Bool.false_ne_true]; refine sg_bind (wpAny_rule ?_))
      | (rw [if_neg Bool.false_ne_true]; refine sg_bind (wpAny_pure ?_); refine sg_bind (wpAny_rule ?_))
    refine sg_bind (wpAny_field hoa hdat h5 ?_)
    exact hend W wok _ _ H' (fun p hp => List.mem_append_right _ (List.mem_cons_of_mem _ hp)) (r'.unwt r'.tt.1)
  | cons x xs ih =>
    intro Tc tmc W wok s H fp gp o gd r g hg hd
    obtain ⟨xc, hxc⟩ := close_gen
    rw [den_yf1 (G.cx W)]
    unfold Builtin.«proto.yield_from»
    try dsimp only
    refine sg_bind (wpAny_pure ?_)
    try dsimp only
    refine sg_bind (wpAny_attempt (wpAny_holding ?_))
    rw [if_neg Bool.false_ne_true, if_pos (show (Value.none == Value.none) = true from rfl)]
    refine wpAny_bind (wpAny_rule (wpAny_bind ?_))
    refine wpAny_mono (yf_itemV (G := G.wt fun H => G.T H ∧ Tc H) (ok.wt (tm_and tmG tmc)) wok.wt ⟨(hy W wok).1, (hy W wok).2.1, fun _ h => h.2, (hy W wok).2.2⟩ gd r g hg hd) ?_ fun _ _ z => z.elim
    rintro rr s1 ⟨Tn, u, v, fp', gp', H', rfl, tmn, htn, rv, hx, r1, g1, su1, gd1, hd1⟩
    refine wpAny_pure ?_
    try dsimp only
    have q := r1.inv.inv.pin (it, o) (List.mem_append_right _ (List.mem_append_left _ (List.mem_append_right _ List.mem_cons_self)))
    refine sg_bind (wpAny_typeOf (T := "generator") ⟨o, q.1, hg.cls⟩ ?_)
    try dsimp only
    first
      | (refine sg_bind (wpAny_of_eq hxc ?_); refine sg_bind (wpAny_pure ?_))
      | refine sg_bind (wpAny_bind (wpAny_of_eq hxc (wpAny_pure ?_)))
      | refine sg_bind (wpAny_of_eq hxc ?_)
    try dsimp only
    refine sg_bind (wpAny_slept (g := gc) (n := 0) (b := true) q.1 hg.cls hg.data (hg.sl.imp (fun z => ⟨z, rfl⟩) fun z => z) fun h' o1 ho1 hg1 hs1 => ?_)
    have r2 := rn_swap (G := G.wt fun H => G.T H ∧ Tn H) (Rn.wt (G := G.wt fun H => G.T H ∧ Tc H) (T := fun H => G.T H ∧ Tn H) r1 ⟨r1.tt.1, htn⟩) (fun p hp => (hd1 p hp).1) hit hs1 ho1 (fun v z => by obtain ⟨_, ⟨_, _, d⟩, _⟩ := hg1; rw [d] at z; cases z) hg1.isG
    show Sg G.P G.w (PhV G (x :: (xs ++ rest)) W) W.A (yfC it) (.yield u true [] _) fs _
    refine sg_yieldG (yTo_yf it) ho1 hg1.isG hsp fun p => ?_
    refine ⟨u, _, _, _, p, fs, v, fp' ++ (it, o1) :: own1, gp', σ, H', _, tm_and tmG tmn, rfl, hgd, rv, hx, r2, g1, fun q hq => ?_, su1, fun a e => ?_, fun W2 wok2 s2 H2 r3 g3 => ?_⟩
    · have := gd1
      cases xs with
      | nil => exact Nat.lt_of_lt_of_le hgc (this.2.1 q hq)
      | cons y ys => exact Nat.lt_of_lt_of_le hgc (this.2.1 q hq)
    · cases e
      exact ⟨o1, List.mem_append_right _ List.mem_cons_self, hg1.isG⟩
    · -- woken again
      have q3 := r3.inv.inv.pin (it, o1) (List.mem_append_right _ (List.mem_append_left _ (List.mem_append_right _ List.mem_cons_self)))
      refine sg_bind (wpAny_pure ?_)
      refine sg_bind (wpAny_slept (g := gc) (n := 1) (b := false) q3.1 hg1.1 hg1.2.1 (.inr hg1.2.2) fun h3 o2 ho2 hg2 hs2 => ?_)
      have r4 := rn_swap (G := G.wt fun H => G.T H ∧ Tn H) r3 (fun p hp => (hd1 p hp).1) hit hs2 ho2 (fun v z => by obtain ⟨_, ⟨_, _, d⟩, _⟩ := hg2; rw [d] at z; cases z) hg2.isG
      try dsimp only
      refine sg_bind (wpAny_pure ?_)
      exact sg_again (plainId_quiet plain_yf _) (ih Tn tmn W2 wok2 _ H2 fp' gp' o2 gd1 r4 g3 (Gen0.of hg2) hd1)
end
section
variable {G : GX} {W : Wk} {own : Pl} {σ : L2.St} {H : Hp} {s : Shared}
/-- what was made among a frame's own -/
theorem rn_madeV {kc : Nat} {T : Hp → Prop} {items : List Item} {it g lo : Nat} {o : Obj} {fp : Pl} {gp : Gl1} {s' : Shared} (wok : W.Ok G) (r : Rn G W own σ H s) (m : FreshV (G.cx W) kc T items (own ++ W.tl) σ H s it g lo o fp gp s') (hfp : ∀ p ∈ fp, lo ≤ p.1) :
    Rn G W (fp ++ (it, o) :: own) σ H s' ∧ (∀ q ∈ own, q.1 ≠ it) ∧ (∀ p ∈ fp, p.1 ≠ it ∧ ∀ q ∈ own, q.1 ≠ p.1) ∧ G.L < lo := by
  have hL : G.L < lo := Nat.lt_of_lt_of_le (Nat.lt_of_lt_of_le wok.lt r.sz) m.los
  have J : In1 (G.cx W) ((fp ++ (it, o) :: own) ++ W.tl) σ H s' := by
    have e : fp ++ (it, o) :: (own ++ W.tl) = (fp ++ (it, o) :: own) ++ W.tl := by simp
    have q := m.inv
    rw [e] at q
    exact q
  refine ⟨⟨J, fun p hp => ?_, r.ext, r.tt, Nat.le_trans r.sz m.sz, Nat.lt_of_lt_of_le r.gz m.gz⟩, fun q hq => m.itok.2.2.2.2.2 q (List.mem_append_right _ (List.mem_append_left _ hq)), fun p hp => ?_, hL⟩
  · rcases List.mem_append.mp hp with hp | hp
    · have f := m.fpok p hp
      refine ⟨Nat.lt_of_lt_of_le hL (hfp p hp), fun q hq => ?_⟩
      rcases List.mem_append.mp hq with hq | hq
      · exact f.2.2.2.2.2 q (List.mem_append_left _ hq)
      · exact f.2.2.2.2.2 q (List.mem_append_right _ (List.mem_cons_of_mem _ (List.mem_append_right _ hq)))
    · rcases List.mem_cons.mp hp with rfl | hp
      · refine ⟨Nat.lt_of_lt_of_le hL m.lit, fun q hq => ?_⟩
        rcases List.mem_append.mp hq with hq | hq
        · exact m.itok.2.2.2.2.2 q (List.mem_append_left _ hq)
        · exact m.itok.2.2.2.2.2 q (List.mem_append_right _ (List.mem_append_right _ hq))
      · exact r.apart p hp
  · have f := m.fpok p hp
    exact ⟨Ne.symm (f.2.2.2.2.2 (it, o) (List.mem_append_right _ List.mem_cons_self)), fun q hq => f.2.2.2.2.2 q (List.mem_append_right _ (List.mem_cons_of_mem _ (List.mem_append_left _ hq)))⟩
end
theorem gd_loV {P : Program} {w : World} {K : PySem.W.Frag} {mg : Str → Option Value} {base : Heap} {k : Nat} {T : Hp → Prop} {it g lo : Nat} {items : List Item} {fp : Pl} {gp : Gl1} (h : GdV P w K mg base k it g lo T items fp gp) : ∀ p ∈ fp, lo ≤ p.1 := by
  cases items with
  | nil => exact h.1
  | cons x xs => exact h.1
section
variable {G : GX} {W : Wk} {own : Pl} {σ : L2.St} {H : Hp} {s : Shared} {kc : Nat} {f : Addr} {fd : FuncData} {ps : List Str} {sp : SpG1} {ds : List Value} {dvs : List V}
/-- f(e, ..) of a generator def, within a generator's frame -/
theorem rn_gencallV {x : Str} {p pos : Pos} {e : Expr} {es : List Expr} {t : TA} {items : List Item} (ok : G.Ok) (wok : W.Ok G) (F : GFnV G.P G.w G.K G.mg G.base kc f fd ps sp) (hr : Room 1 (G.cx W).A) (hg : L2.Gl (G.cx W) x) (hm : G.mg x = some (.ref f)) (hk : PySem.W.keepIn G.K (.ref f) = true)
    (hb : Binds G.K fd ps ds) (hd : Vals dvs ds) (ha : PA (G.cx W) (e :: es) t) (r : Rn G W own σ H s) (ht : t σ H fun vs H1 => Ext H H1 ∧ ∃ Tc, sp (vs ++ dvs) H1 Tc items)
    (hdb : (x == ("__debug__" : Str)) = false := by decide) (he : starEach (e :: es) G.env = (false, eval e G.env) :: starEach es G.env := by rfl) (hpl : (backTo pos (starEach es G.env)).any (·.1) = false := by rfl) :
    wpAny (Md G.P G.w) (G.cx W).A (eval (.Call (.Name x p) (e :: es) [] pos) G.env) (fun u s' => ∃ H1 s1 Tc, Rn G W own σ H1 s1 ∧ MadeV (G.cx W) kc Tc items (own ++ W.tl) σ H1 s1 u s') no s := by
  refine wpAny_Call_Name_kw (ld_glob1 (X := G.cx W) r.inv.inv hg hm ?_ hdb)
  refine PySem.W.callWith_K (h₀ := G.base) ok.mod.kin hk (wpAny_mono (rn_pa (pos := pos) ok r ha ht) (fun us s1 ⟨vs, H1, r1, rv, Tc, hsp⟩ => ⟨r1.inv.inv.kIn, ?_⟩) fun _ _ z => z) he hpl
  have r2 : Vals (vs ++ dvs) (us ++ ds) := rv.append hd
  have hl : (us ++ ds).length = ps.length := by rw [← r2.length]; exact F.len _ _ _ _ hsp
  refine wpAny_call (codeAny_mono (F.run (G.cx W) rfl rfl rfl rfl rfl hr (own ++ W.tl) σ H1 s1 ⟨us, []⟩ (us ++ ds) (vs ++ dvs) Tc items r1.inv (hb s1 us r1.inv.inv.kIn hl) r2 hsp) fun rr s' hq => ?_)
  cases rr with
  | error e => exact False.elim hq
  | ok fl =>
    cases fl with
    | ret u => exact ⟨H1, s1, Tc, r1, hq⟩
    | next => exact False.elim hq
    | brk => exact False.elim hq
    | cont => exact False.elim hq

variable {c : Code} {fs : List Frame} {K : Flow → Sem PySem.Fin} {J : Value → Sem PySem.Fin} {gd : Bool → Bool} {lv : List Value → List Value}
/-- «yield from f(..)» -/
theorem sg_yfromV {x : Str} {p pos yp spos : Pos} {e : Expr} {es : List Expr} {t : TA} {items rest : List Item} (ok : G.Ok) (wok : W.Ok G) (F : GFnV G.P G.w G.K G.mg G.base kc f fd ps sp) (hkc : kc + 1 ≤ G.k) (hk1 : 1 ≤ kc)
    (hg : L2.Gl (G.cx W) x) (hm : G.mg x = some (.ref f)) (hk : PySem.W.keepIn G.K (.ref f) = true) (hb : Binds G.K fd ps ds) (hd : Vals dvs ds) (ha : PA (G.cx W) (e :: es) t)
    (tmG : TMono G.T) (hover : ∀ W : Wk, W.Ok G → W.A.over c fs = (G.cx W).A) (hsp : splitAtGen fs = none) (hfg : fs.any Frame.guarded = false) (hgd : gd false = false)
    (hend : ∀ W : Wk, W.Ok G → ∀ own' s H, Sub own own' → Rn G W own' σ H s → Sg G.P G.w (PhV G rest W) W.A c (K .next) fs s)
    (r : Rn G W own σ H s) (ht : t σ H fun vs H1 => Ext H H1 ∧ ∃ Tc, sp (vs ++ dvs) H1 Tc items) (hi : interactive G.env = false)
    (hdb : (x == ("__debug__" : Str)) = false := by decide) (he : starEach (e :: es) G.env = (false, eval e G.env) :: starEach es G.env := by rfl) (hpl : (backTo pos (starEach es G.env)).any (·.1) = false := by rfl) :
    Sg G.P G.w (PhV G (items ++ rest) W) W.A c ((exec (.Expr (.YieldFrom (.Call (.Name x p) (e :: es) [] pos) yp) spos) G.env).wrap K J gd lv) fs s := by
  rw [exec_Expr G.env _ spos hi rfl]
  show Sg _ _ _ _ c (.at spos fun _ => ((eval (.Call (.Name x p) (e :: es) [] pos) G.env >>= fun v => (standAt yp >>= fun _ => yieldFrom G.env v)) >>= fun y => dropValue (.YieldFrom (.Call (.Name x p) (e :: es) [] pos) yp) spos y).wrap K J gd lv) fs s
  refine sg_at (sg_bindw2 ?_)
  rw [hover W wok]
  have hr1 : Room 1 (G.cx W).A := by
    have q : Room (1 + 1) W.A := wok.room.mono (by omega)
    exact q.deeper _
  refine wpAny_mono (rn_gencallV ok wok F hr1 hg hm hk hb hd ha r ht hdb he hpl) ?_ fun _ _ z => False.elim z
  rintro u s2 ⟨H1, s1, Tc, r1, it, g, lo, o, fp, gp, rfl, m⟩
  obtain ⟨r2, h1, h2, hL⟩ := rn_madeV wok r1 m (gd_loV m.gd)
  have hget := (r2.inv.inv.pin (it, o) (List.mem_append_right _ (List.mem_append_left _ (List.mem_append_right _ List.mem_cons_self)))).1
  refine sg_at ?_
  show Sg _ _ _ _ c ((yieldFrom G.env (.ref it)).wrap (fun b => (dropValue (.YieldFrom (.Call (.Name x p) (e :: es) [] pos) yp) spos b).wrap K J gd lv) J gd lv) fs s2
  unfold yieldFrom
  refine sg_bindw (wpAny_typeOf (m.obj.typeIs hget) ?_)
  rw [if_neg (by decide)]
  refine sg_bindw (wpAny_holding (md_iter_gen hget m.obj ?_))
  refine sg_call fun pp => ?_
  refine yf_turnsV ok (Nat.lt_of_lt_of_le r1.gz m.gs) h1 tmG (fun W2 wok2 => ⟨?_, ?_, hL⟩) ?_ ?_ (fun W2 wok2 own' s' H' hsub r' => ?_) items Tc m.tm W wok s2 H1 fp gp o m.gd (r2.wt ⟨r2.tt, m.tt⟩) m.gens m.obj h2
  · show Room kc (W2.A.over (yfC it) (.ret _ none _ _ c pp [] :: fs))
    rw [over_blt (yf_weight it) (yf_units it), hover W2 wok2]
    have q : Room (kc + 1) W2.A := wok2.room.mono hkc
    exact ⟨q.hd, by have := q.dp; show W2.A.depth + 1 + 3 * kc + 5 < _; omega, by have := q.un; show W2.A.units + 3 + 1 + 16 * kc + 200 < _; omega⟩
  · show (W2.A.over (yfC it) (.ret _ none _ _ c pp [] :: fs)).frames = _
    rw [over_blt (yf_weight it) (yf_units it), hover W2 wok2]
    exact Around.frames_deeper wok2.frames
  · show (splitAtGen fs).map _ = none
    rw [hsp]; rfl
  · show (gd false || fs.any Frame.guarded) = false
    rw [hgd, hfg]; rfl
  · exact sg_leaf (.ok (.ret .none)) (hend W2 wok2 own' s' H' hsub r')
end
end Gk
/-! Its loops; list(..) of it. -/
namespace Gk
open PySem PySem.Spec PyProof.Rows L2
open Sem (wp)
section
variable {G : GX} {kc : Nat} {f : Addr} {fd : FuncData} {ps : List Str} {sp : SpG1} {ds : List Value} {dvs : List V} {c : Code} {fs : List Frame} {K : Flow → Sem PySem.Fin} {J : Value → Sem PySem.Fin} {gd : Bool → Bool} {lv : List Value → List Value}
/-- what the loop's body asks -/
structure EnV (G : GX) (f : Addr) (sp : SpG1) (dvs : List V) (elts : List Expr) (kk : Nat) (tpos : Pos) (e0 : Expr) (es : List Expr) (a : Addr) (xs : List V) (Pv : L2.St → Prop) (its : Nat → List Item) : Prop where
  tup : ∀ H, G.T H → H a = some (.tup xs)
  turn : ∀ (W : Wk), W.Ok G → ∀ (i : Nat) (x : V) (σ : L2.St) (H : Hp) (T : Addr), xs[i]? = some x → Pv σ → G.T H → H T = some (.tup [.int (i : Nat), x]) →
    ∃ g t, PG (G.cx W) (.Tuple elts kk tpos) g ∧ PA (G.cx W) (e0 :: es) t ∧ g (.ref T) σ H fun σ' H' => Ext H H' ∧ Pv σ' ∧ t σ' H' fun vs H1 => Ext H' H1 ∧ ∃ Tc, sp (vs ++ dvs) H1 Tc (its i)
theorem sg_enumLoopV {x : Str} {p pos yp spos tpos : Pos} {elts : List Expr} {kk : Nat} {e0 : Expr} {es : List Expr} {a e j : Addr} {xs : List V} {Pv : L2.St → Prop} {its rest : Nat → List Item} {pp : Pos} (ok : G.Ok) (tmG : TMono G.T)
    (F : GFnV G.P G.w G.K G.mg G.base kc f fd ps sp) (hkc : kc + 1 ≤ G.k) (hk1 : 1 ≤ kc) (hg : ∀ W, L2.Gl (G.cx W) x) (hm : G.mg x = some (.ref f)) (hk : PySem.W.keepIn G.K (.ref f) = true) (hb : Binds G.K fd ps ds) (hd : Vals dvs ds)
    (B : EnV G f sp dvs elts kk tpos e0 es a xs Pv its) (hr : ∀ i, i < xs.length → rest i = its i ++ rest (i + 1))
    (hover : ∀ W : Wk, W.Ok G → W.A.over c fs = (G.cx W).A) (hsp : splitAtGen fs = none) (hfg : fs.any Frame.guarded = false) (hgd : gd false = false)
    (hend : ∀ W : Wk, W.Ok G → ∀ own σ s H, Pv σ → Rn G W own σ H s → Sg G.P G.w (PhV G (rest xs.length) W) W.A c (K .next) fs s) (hi : interactive G.env = false)
    (hdb : (x == ("__debug__" : Str)) = false) (he : starEach (e0 :: es) G.env = (false, eval e0 G.env) :: starEach es G.env) (hpl : (backTo pos (starEach es G.env)).any (·.1) = false) :
    ∀ (m i : Nat), i + m = xs.length → ∀ (W : Wk), W.Ok G → ∀ own σ s H, Pv σ → Rn G W own σ H s → EnSt own a e j i →
      Sg G.P G.w (PhV G (rest i) W) W.A (.forLoop (.Tuple elts kk tpos) (.ref e) [.Expr (.YieldFrom (.Call (.Name x p) (e0 :: es) [] pos) yp) spos] [] G.env)
        (denote table (.forLoop (.Tuple elts kk tpos) (.ref e) [.Expr (.YieldFrom (.Call (.Name x p) (e0 :: es) [] pos) yp) spos] [] G.env))
        (.ret (fun r => ((match r with | .ok f => (.pure f : Sem Flow) | .error e => .raise e).onRaise (cameBack G.env)).wrap K J gd lv) none (gd false) (lv []) c pp [] :: fs) s := by
  have hover2 : ∀ W : Wk, W.Ok G → W.A.over (.forLoop (.Tuple elts kk tpos) (.ref e) [.Expr (.YieldFrom (.Call (.Name x p) (e0 :: es) [] pos) yp) spos] [] G.env)
      (.ret (fun r => ((match r with | .ok f => (.pure f : Sem Flow) | .error e => .raise e).onRaise (cameBack G.env)).wrap K J gd lv) none (gd false) (lv []) c pp [] :: fs) = (G.cx W).A := fun W wok => by
    rw [GenW.over_loop rfl rfl]
    exact hover W wok
  have hsp2 : splitAtGen (.ret (fun r => ((match r with | .ok f => (.pure f : Sem Flow) | .error e => .raise e).onRaise (cameBack G.env)).wrap K J gd lv) none (gd false) (lv []) c pp [] :: fs) = none := by
    show (splitAtGen fs).map _ = none
    rw [hsp]; rfl
  have hfg2 : (Frame.ret (fun r => ((match r with | .ok f => (.pure f : Sem Flow) | .error e => .raise e).onRaise (cameBack G.env)).wrap K J gd lv) none (gd false) (lv []) c pp [] :: fs).any Frame.guarded = false := by
    show (gd false || fs.any Frame.guarded) = false
    rw [hgd, hfg]; rfl
  intro m
  induction m with
  | zero =>
    intro i hi2 W wok own σ s H pv r en
    have hi' : i = xs.length := by omega
    subst hi'
    obtain ⟨R, old, r1, hf, hen, hit⟩ := rn_take ok wok r en
    show Sg _ _ _ _ _ ((forTurn (.Tuple elts kk tpos) (.ref e) [.Expr (.YieldFrom (.Call (.Name x p) (e0 :: es) [] pos) yp) spos] [] G.env).onRaise (fun x => do noteFrame x G.env; theTreesLotGoes x)) _ s
    unfold forTurn
    rw [Sem.onRaise_eq_wrap]
    refine sg_bindw (wpAny_standAt ?_)
    refine sg_bindw (wpAny_onRaise ?_)
    rw [hover2 W wok]
    refine wpAny_mono (rn_step (R := fun rr σ' H' => rr = none ∧ σ' = σ) ok r1 (wpAny_mono (enum_endT (X := G.cx W) rfl (Inv.lulled r1.inv.inv) hf hen hit (B.tup _ r.tt) (Nat.le_refl _)) (fun rr sh ⟨h1, h2⟩ => ⟨σ, H, h2, .refl _, h1, rfl⟩) fun _ _ z => z)) ?_ fun _ _ z => z.elim
    rintro rr s1 ⟨σ', H', r2, rfl, rfl⟩
    refine sg_again (c' := .block [] G.env) rfl ?_
    show Sg _ _ _ _ _ (leafOf (.ok .next)) _ _
    exact sg_leaf (.ok .next) (hend W wok R σ' s1 H' pv r2)
  | succ m ih =>
    intro i hi2 W wok own σ s H pv r en
    have hlt : i < xs.length := by omega
    obtain ⟨v, hx⟩ : ∃ v, xs[i]? = some v := ⟨xs[i], List.getElem?_eq_getElem hlt⟩
    obtain ⟨R, old, r1, hf, hen, hit⟩ := rn_take ok wok r en
    obtain ⟨hne, hna, hne2⟩ : e ≠ j ∧ a ≠ j ∧ a ≠ e := ⟨en.ne, en.na, en.ne2⟩
    show Sg _ _ _ _ _ ((forTurn (.Tuple elts kk tpos) (.ref e) [.Expr (.YieldFrom (.Call (.Name x p) (e0 :: es) [] pos) yp) spos] [] G.env).onRaise (fun x => do noteFrame x G.env; theTreesLotGoes x)) _ s
    unfold forTurn
    rw [Sem.onRaise_eq_wrap]
    refine sg_bindw (wpAny_standAt ?_)
    refine sg_bindw (wpAny_onRaise ?_)
    rw [hover2 W wok]
    refine wpAny_mono (rn_stepH (R := fun rr σ' H' h' => ∃ T y, rr = some (.ref T) ∧ H T = none ∧ H' = upd H T (.tup [.int (i : Nat), v]) ∧ σ' = σ ∧ IsEnumOut h' e j (((i + 1 : Nat) : Int)) y T ∧ h'.IsTupleIter j a (i + 1) ∧ T ≠ e ∧ T ≠ j) ok r1
      (wpAny_mono (enum_nextT (X := G.cx W) rfl (Inv.lulled r1.inv.inv) hf hen hit hne hna hne2 (B.tup _ r.tt) hx) (fun rr sh ⟨T, y, h1, h2, h3, h4, h5, h6, h7⟩ => ⟨σ, _, h3, Ext.upd h2, T, y, h1, h2, rfl, rfl, h4, h5, h6, h7⟩) fun _ _ z => z)) ?_ fun _ _ z => z.elim
    rintro rr s1 ⟨σ', H', r2, T, y, rfl, hTn, rfl, rfl, hout, hit2, hTe, hTj⟩
    have hf2 : ∀ b ∈ [e, j], FpOk (G.cx W) (R ++ W.tl) (upd H T (.tup [.int (i : Nat), v])) b := fun b hb => by
      have q := hf b hb
      refine ⟨?_, q.2⟩
      rw [upd_ne ?_]
      · exact q.1
      · rcases (show b = e ∨ b = j by simpa using hb) with z | z
        · rw [z]; exact Ne.symm hTe
        · rw [z]; exact Ne.symm hTj
    refine sg_bindw (letGo_enum hout fun h' hen2 hsb => ?_)
    have fe := hf2 e (by simp)
    have r3 : Rn G W R σ' (upd H T (.tup [.int (i : Nat), v])) { s1 with heap := h' } :=
      ⟨⟨r2.inv.inv.turned (t' := s1.toks) (fun b o hb eb => (hsb.2 b hb).trans eb) fe.1 fe.2.1 fe.2.2.2.1 fe.2.2.2.2.1 fe.2.2.2.2.2, r2.inv.told⟩, r2.apart, r2.ext, r2.tt, by show _ ≤ h'.objs.size; rw [hsb.1]; exact r2.sz, r2.gz⟩
    have hit3 : h'.IsTupleIter j a (i + 1) := hit2.at fun o q => (hsb.2 j (Ne.symm hne)).trans q
    obtain ⟨E, en2, hE⟩ := en_pins (s := { s1 with heap := h' }) (R := R) (i := i + 1) hen2 hit3 hne hna hne2
    have r4 := rn_add ok wok r3 (E := E) fun p hp => ⟨hf2 p.1 (hE p hp).1, (hE p hp).2⟩
    have hTt : (upd H T (.tup [.int (i : Nat), v])) T = some (.tup [.int (i : Nat), v]) := upd_same
    obtain ⟨g, t, hpg, hpa, hq⟩ := B.turn W wok i v σ' _ T hx pv r4.tt hTt
    refine sg_bindw ?_
    rw [hover2 W wok]
    refine wpAny_mono (rn_pg (x := V.ref T) ok r4 hpg rfl hq) ?_ fun _ _ z => z.elim
    rintro _ s2 ⟨σ2, H2, r5, pv2, ht⟩
    rw [Sem.bind_eq_wrap', Sem.wrap_wrap]
    refine sg_cons ?_
    rw [hr i hlt]
    refine sg_yfromV ok wok F hkc hk1 (hg W) hm hk hb hd hpa tmG hover2 hsp2 hfg2 rfl (fun W2 wok2 own' s3 H3 hsub r6 => ?_) r5 ht hi hdb he hpl
    exact sg_again rfl (ih (i + 1) (by omega) W2 wok2 own' σ2 s3 H3 pv2 r6 (en2.mono hsub))
/-- for i, x in enumerate(t): yield from f(..) -/
theorem sg_enumForV {W : Wk} {own : Pl} {σ : L2.St} {s : Shared} {H : Hp} {x : Str} {p pos yp spos tpos p' pos' fpos : Pos} {elts : List Expr} {kk : Nat} {ex e0 : Expr} {es : List Expr} {a : Addr} {xs : List V} {Pv : L2.St → Prop} {its rest : Nat → List Item} {ta : TA} (ok : G.Ok) (tmG : TMono G.T) (wok : W.Ok G)
    (F : GFnV G.P G.w G.K G.mg G.base kc f fd ps sp) (hkc : kc + 1 ≤ G.k) (hk1 : 1 ≤ kc) (hg : ∀ W, L2.Gl (G.cx W) x) (hm : G.mg x = some (.ref f)) (hk : PySem.W.keepIn G.K (.ref f) = true) (hb : Binds G.K fd ps ds) (hd : Vals dvs ds)
    (B : EnV G f sp dvs elts kk tpos e0 es a xs Pv its) (hr : ∀ i, i < xs.length → rest i = its i ++ rest (i + 1))
    (hover : ∀ W : Wk, W.Ok G → W.A.over c fs = (G.cx W).A) (hsp : splitAtGen fs = none) (hfg : fs.any Frame.guarded = false) (hgd : gd false = false)
    (hend : ∀ W : Wk, W.Ok G → ∀ own σ s H, Pv σ → Rn G W own σ H s → Sg G.P G.w (PhV G (rest xs.length) W) W.A c (K .next) fs s) (hi : interactive G.env = false)
    (hge : L2.Gl (G.cx W) "enumerate") (hme : G.mg "enumerate" = none) (hpa : PA (G.cx W) [ex] ta) (pv : Pv σ) (r : Rn G W own σ H s) (hta : ta σ H fun vs H1 => vs = [.ref a] ∧ Ext H H1)
    (hdb : (x == ("__debug__" : Str)) = false := by decide) (he : starEach (e0 :: es) G.env = (false, eval e0 G.env) :: starEach es G.env := by rfl) (hpl : (backTo pos (starEach es G.env)).any (·.1) = false := by rfl) (hs : starEach [ex] G.env = [(false, eval ex G.env)] := by rfl)
    (hfo : ∀ y, foldedSetIterable (.Call (.Name "enumerate" p') [ex] [] pos') G.env y = pure y := by intro _; rfl) (hmono : ∀ σ H Q Q', (∀ vs H1, Q vs H1 → Q' vs H1) → ta σ H Q → ta σ H Q') :
    Sg G.P G.w (PhV G (rest 0) W) W.A c ((exec (.For (.Tuple elts kk tpos) (.Call (.Name "enumerate" p') [ex] [] pos') [.Expr (.YieldFrom (.Call (.Name x p) (e0 :: es) [] pos) yp) spos] [] fpos) G.env).wrap K J gd lv) fs s := by
  rw [exec_For]
  refine sg_bindw (m := standAt fpos) (wpAny_standAt ?_)
  refine sg_bindw ?_
  rw [hover W wok]
  have hta2 : ta σ H fun vs H1 => ∃ a' ys, vs = [.ref a'] ∧ H1 a' = some (.tup ys) ∧ a' = a ∧ ys = xs ∧ Ext H H1 := hmono _ _ _ _ (fun vs H1 ⟨e, x1⟩ => ⟨a, xs, e, x1 _ _ (B.tup _ r.tt), rfl, rfl, x1⟩) hta
  refine wpAny_mono (rn_stepH (R := fun v σ' H' h' => ∃ e j, v = .ref e ∧ σ' = σ ∧ IsEnum h' e j ((0 : Nat) : Int) .none ∧ h'.IsTupleIter j a 0 ∧ e ≠ j ∧ a ≠ j ∧ a ≠ e ∧ ∀ b ∈ [e, j], FpOk (G.cx W) (own ++ W.tl) H' b) ok r
    (wpAny_mono (enum_evalT (X := G.cx W) (Inv.lulled r.inv.inv) hge hme hpa (R := fun a' ys H1 => a' = a ∧ ys = xs ∧ Ext H H1) hta2 hs) (fun v sh ⟨e, j, a', ys, H1, h1, h2, h3, h4, h5, h6, h7, h8, h9, h10, h11, h12⟩ => by
      subst h10
      exact ⟨σ, H1, h2, h12, e, j, h1, rfl, h3, h4, h5, h6, h7, h8⟩) fun _ _ z => z)) ?_ fun _ _ z => z.elim
  rintro v s1 ⟨σ1, H1, r1, e, j, rfl, rfl, hen, hit, hne, hna, hne2, hf⟩
  refine sg_bindw (wpAny_of_eq (hfo _) ?_)
  refine sg_bindw (wpAny_standAt ?_)
  refine sg_bindw (wpAny_holding ?_)
  rw [hover W wok]
  refine wpAny_mono (rn_stepH (A := (G.cx W).A) (R := fun v σ' H' h' => v = .ref e ∧ σ' = σ1 ∧ H' = H1 ∧ IsEnum h' e j ((0 : Nat) : Int) .none ∧ h'.IsTupleIter j a 0) ok r1
    (wpAny_pyIter_enum hen ⟨σ1, H1, Inv.lulled r1.inv.inv, .refl _, rfl, rfl, rfl, hen, hit⟩)) ?_ fun _ _ z => z.elim
  rintro v s2 ⟨σ2, H2, r2, rfl, rfl, rfl, hen2, hit2⟩
  obtain ⟨E, en2, hE⟩ := en_pins (s := s2) (R := own) (i := 0) hen2 hit2 hne hna hne2
  have r4 := rn_add ok wok r2 (E := E) fun p hp => ⟨hf p.1 (hE p hp).1, (hE p hp).2⟩
  refine sg_call fun pp => ?_
  exact sg_enumLoopV ok tmG F hkc hk1 hg hm hk hb hd B hr hover hsp hfg hgd hend hi hdb he hpl xs.length 0 (Nat.zero_add _) W wok _ σ2 s2 H2 pv r4 en2
/-- a yield -/
theorem sg_yieldIV {W : Wk} {own : Pl} {σ : L2.St} {s : Shared} {H : Hp} {e : Expr} {te : TE} {yp pos : Pos} {item : Item} {rest : List Item} (ok : G.Ok) (tmG : TMono G.T) (wok : W.Ok G) (he : PE (G.cx W) e te) (r : Rn G W own σ H s) (ht : te σ H fun v H' => Ext H H' ∧ item v H')
    (hover : ∀ W : Wk, W.Ok G → W.A.over c fs = (G.cx W).A) (hsp : splitAtGen fs = none) (hfg : fs.any Frame.guarded = false) (hgd : gd false = false)
    (hend : ∀ W : Wk, W.Ok G → ∀ s H, Rn G W own σ H s → Sg G.P G.w (PhV G rest W) W.A c (K .next) fs s) (hco : G.env.scope.isCoroutine = false) (hi : interactive G.env = false) :
    Sg G.P G.w (PhV G (item :: rest) W) W.A c ((exec (.Expr (.Yield (some e) yp) pos) G.env).wrap K J gd lv) fs s := by
  refine sg_yieldS hsp hgd ?_ hco hi
  rw [hover W wok]
  refine wpAny_mono (rn_pe ok r he ht) ?_ fun _ _ z => z.elim
  rintro u s1 ⟨v, H1, r1, rv, hit⟩ p k hk
  have no1 : ∀ {φ : Nat × GenState → Prop}, ∀ q ∈ ([] : Gl1), φ q := fun q hq => absurd hq (by simp)
  refine ⟨u, k, [], c, p, fs, v, own, [], σ, H1, G.T, tmG, rfl, hfg, rv, hit, r1, no1, no1, no1, (fun a e => by cases e), fun W2 wok2 s2 H2 r2 _ => ?_⟩
  have e1 : k (.send .none) = K .next := hk .none
  rw [e1]
  exact hend W2 wok2 s2 H2 r2
theorem sg_finV {W : Wk} {own : Pl} {σ : L2.St} {s : Shared} {H : Hp} (r : Rn G W own σ H s) {c : Code} : Sg G.P G.w (PhV G [] W) W.A c (.pure (.done (.ret .none))) [] s := sg_end (.ok (.ret .none)) ⟨rfl, own, σ, H, r⟩
end
end Gk
/-! list(..) of it. -/
namespace Gk
open PySem PySem.Spec PyProof.Rows L2
open Sem (wp)
section
variable {P : Program} {w : World} {K : PySem.W.Frag} {mg : Str → Option Value} {base : Heap} {k : Nat} {it g lo : Nat}
theorem drainV {A : Around} {R : Result → Shared → Prop} {res : Value} {S : Addr} {o : Obj} {X' : Cx} (host : Host P w K mg base k lo X') (hA : X'.A = A.in1) (h0 : Gen0 o g)
    (items0 : List Item) (st : ∀ x ∈ items0, ∀ v H H', ExtL H H' → x v H → x v H') (p : Pl) (σ : L2.St) (Hs : Hp) (hSn : Hs S = none)
    (hend : ∀ vs p2 H' s', Sub p p2 → In1 X' p2 σ H' s' → Ext Hs H' → H' S = some (.lst vs) → Gave H' items0 vs → R (.ok (.ret res)) s') :
    ∀ (items : List Item) (T : Hp → Prop) (tm : TMono T) (done : List Item) (vs : List V) (fp : Pl) (gp : Gl1) (H : Hp) (s : Shared), items0 = done ++ items → In1 X' (fp ++ (it, o) :: p) σ H s → (∀ q ∈ fp, FpOk X' ((it, o) :: p) H q.1) → FpOk X' p H it → GOk gp s → T H → GdV P w K mg base k it g lo T items fp gp →
      Ext Hs H → H S = some (.lst vs) → Gave H done vs → vs.length + items.length ≤ sizeLine →
      codeAny (Md P w) A (.builtin "list.extend.loop" ⟨[.ref S, .ref it, res], []⟩) R s := by
  intro items
  induction items with
  | nil =>
    intro T tm done vs fp gp H s ei I hf hit hg ht gd ex hS hv hl
    refine md_builtin F.entry_extend_loop ?_
    rw [Around.under_plainId F.plain_extend_loop _]
    show wpAny _ A.in1 (pyNext (.ref it) >>= _) _ _ s
    have pre : Pre X' lo T it g fp gp ((it, o) :: p) σ H s := ⟨I, hf, hg, ⟨o, (I.inv.pin (it, o) (List.mem_append_right _ (List.mem_append_right _ List.mem_cons_self))).1, h0⟩, ht⟩
    rw [← hA]
    refine wpAny_bind (pyNext_stop (gd.2.2 X' host _ σ H s _ _ pre fun e fp' H' s' hS' po => ⟨hS', ?_⟩))
    rw [List.append_nil] at ei
    subst ei
    exact wpAny_pure (hend vs _ H' s' (fun q hq => List.mem_append_right _ (List.mem_cons_of_mem _ hq)) po.inv (ex.trans po.ext) (po.ext _ _ hS) (hv.up po.ext.toL st))
  | cons y ys ih =>
    intro T tm done vs fp gp H s ei I hf hit hg ht gd ex hS hv hl
    refine md_builtin F.entry_extend_loop ?_
    rw [Around.under_plainId F.plain_extend_loop _]
    show wpAny _ A.in1 (pyNext (.ref it) >>= _) _ _ s
    have pre : Pre X' lo T it g fp gp ((it, o) :: p) σ H s := ⟨I, hf, hg, ⟨o, (I.inv.pin (it, o) (List.mem_append_right _ (List.mem_append_right _ List.mem_cons_self))).1, h0⟩, ht⟩
    rw [← hA]
    refine wpAny_bind (pyNext_item (gd.2.2 X' host _ σ H s _ no pre fun T' tm' u v fp' gp' H' s' ht' rv hx po g' su gd' => ⟨u, rfl, ?_⟩))
    have hS1 := po.ext _ _ hS
    obtain ⟨hz, its, n, ri, eS⟩ := po.inv.inv.hok S _ hS1
    have hl' : vs.length + (ys.length + 1) ≤ sizeLine := hl
    have hsz : its.toArray.size < sizeLine := by rw [List.size_toArray, ← ri.length]; omega
    show wpAny _ X'.A (updateSeq S (·.push u) >>= _) _ _ _
    refine wpAny_bind (wpAny_updateSeq eS rfl ?_ (Nat.le_of_lt hsz) (by show (its.toArray.push u).size ≤ sizeLine + 1; rw [Array.size_push]; omega))
    refine wpAny_pure ⟨plainId_quiet F.plain_extend_loop _, ?_⟩
    have J := In1.setList po.inv hS1 (by omega) ri eS rv
    have xl : ExtL H' (upd H' S (.lst (vs ++ [v]))) := ExtL.set hS1
    have e0 : Ext Hs (upd H' S (.lst (vs ++ [v]))) := fun b ob q => by
      have hb : b ≠ S := ne_of_none q hSn
      rw [upd_ne hb]; exact po.ext _ _ (ex _ _ q)
    have old : ∀ {b : Addr}, H' b = none → (upd H' S (.lst (vs ++ [v]))) b = none := fun {b} q => by
      rw [upd_ne (fun z => by rw [z, hS1] at q; cases q)]; exact q
    have q0 := po.inv.inv.pin (it, o) (List.mem_append_right _ (List.mem_append_right _ List.mem_cons_self))
    refine ih T' tm' (done ++ [y]) (vs ++ [v]) fp' gp' _ _ (by rw [ei]; simp) J (fun q hq => ⟨old (po.fpok q hq).1, (po.fpok q hq).2⟩) ⟨old q0.2.1, hit.2⟩ g' (tm' _ _ xl ht') gd' e0 (upd_same ..) ?_ (by simp; omega)
    refine Gave.app (Gave.up (po.ext.toL.trans xl) (fun x hx => st x (by rw [ei]; exact List.mem_append_left _ hx)) hv) (.cons ?_ .nil)
    exact st y (by rw [ei]; simp) _ _ _ xl hx
end
section
variable {X : Cx}
structure PGenV (X : Cx) (k : Nat) (e : Expr) (tg : TG1) : Prop where
  run : ∀ (pins : Pl) (s : Shared) (σ : L2.St) (H : Hp) (R : (Hp → Prop) → List Item → Hp → Prop), In1 X pins σ H s → tg σ H R → wpAny (Md X.prog X.w) X.A (eval e X.env) (fun u s' => ∃ p2 H1 s1 T items, Sub pins p2 ∧ In1 X p2 σ H1 s1 ∧ MadeV X k T items p2 σ H1 s1 u s' ∧ R T items H1) no s
theorem pgen_callV {k : Nat} {f : Addr} {fd : FuncData} {ps : List Str} {sp : SpG1} {ds : List Value} {dvs : List V} {x : Str} {p pos : Pos} {e : Expr} {es : List Expr} {t : TA} (F : GFnV X.prog X.w X.K X.mg X.base k f fd ps sp) (hr : Room 1 X.A) (hg : L2.Gl X x) (hm : X.mg x = some (.ref f)) (hk : PySem.W.keepIn X.K (.ref f) = true)
    (hb : Binds X.K fd ps ds) (hd : Vals dvs ds) (ha : PA1 X (e :: es) t) (hdb : (x == ("__debug__" : Str)) = false := by decide) (he : starEach (e :: es) X.env = (false, eval e X.env) :: starEach es X.env := by rfl) (hpl : (backTo pos (starEach es X.env)).any (·.1) = false := by rfl) :
    PGenV X k (.Call (.Name x p) (e :: es) [] pos) (fun σ H R => t σ H fun vs H1 => ∃ T items, sp (vs ++ dvs) H1 T items ∧ R T items H1) := by
  refine ⟨fun pins s σ H R I h => ?_⟩
  refine wpAny_Call_Name_kw (ld_glob1 I.inv hg hm ?_ hdb)
  refine PySem.W.callWith_K (h₀ := X.base) I.inv.ok.mod.kin hk (wpAny_mono (ha.run pos pins s σ H _ I h) (fun us s1 ⟨p2, vs, H1, z, I1, r, T, items, hsp, q⟩ => ⟨I1.inv.kIn, ?_⟩) fun _ _ z => z) he hpl
  have r2 : Vals (vs ++ dvs) (us ++ ds) := r.append hd
  have hl : (us ++ ds).length = ps.length := by rw [← r2.length]; exact F.len _ _ _ _ hsp
  refine wpAny_call (codeAny_mono (F.run X rfl rfl rfl rfl rfl hr p2 σ H1 s1 ⟨us, []⟩ (us ++ ds) (vs ++ dvs) T items I1 (hb s1 us I1.inv.kIn hl) r2 hsp) fun rr s' hq => ?_)
  cases rr with
  | error e => exact False.elim hq
  | ok fl =>
    cases fl with
    | ret u => exact ⟨p2, H1, s1, T, items, z, I1, hq, q⟩
    | next => exact False.elim hq
    | brk => exact False.elim hq
    | cont => exact False.elim hq
end
section
variable {X : Cx} {k : Nat}
/-- list(g) of a new generator -/
theorem call_listV {T : Hp → Prop} {items : List Item} {pins : Pl} {σ : L2.St} {H : Hp} {s s' : Shared} {u : Value} {Q : Value → Shared → Prop} (hr : Room (k + 3) X.A) (hc : X.calm = true) (I : In1 X pins σ H s) (m : MadeV X k T items pins σ H s u s')
    (st : ∀ x ∈ items, ∀ v H H', ExtL H H' → x v H → x v H') (hl : items.length ≤ sizeLine)
    (hQ : ∀ S vs p2 H' s2, H S = none → Sub pins p2 → In1 X p2 σ H' s2 → Ext H H' → H' S = some (.lst vs) → Gave H' items vs → Q (.ref S) s2) :
    wpAny (Md X.prog X.w) X.A (call (.type "list") [u]) Q no s' := by
  obtain ⟨it, g, lo, o, fp, gp, rfl, m⟩ := m
  have J := m.inv
  have hgo := (J.inv.pin (it, o) (List.mem_append_right _ (List.mem_append_right _ List.mem_cons_self))).1
  have hit : it < s'.heap.objs.size := Heap.lt_size hgo
  have hn : H s'.heap.objs.size = none := J.inv.hok.fresh (Nat.le_refl _)
  have hSa : s'.heap.objs.size ≠ it := Nat.ne_of_gt hit
  have hnew : codeAny (Md X.prog X.w) X.A.in1 (.call (.builtin "list.__new__") ⟨[.type "list", .ref it], []⟩)
      (wants (fun obj s1 => obj = .ref s'.heap.objs.size ∧ s1.heap.get? s'.heap.objs.size = some (lstObj #[] 0) ∧ (∀ b ob, s'.heap.get? b = some ob → s1.heap.get? b = some ob) ∧
        In1 X (fp ++ (it, o) :: pins) σ (upd H s'.heap.objs.size (.lst [])) s1 ∧ GOk gp s1) no) s' := by
    have pl := code_list_new (prog := X.prog) (w := X.w) (A := X.A.in1) (s := lulled s') (E := no) (.ref it)
      (Q₁ := fun obj sh => obj = .ref s'.heap.objs.size ∧ sh = { lulled s' with heap := s'.heap.push { cls := .type "list", data := .seq #[] } }) ⟨rfl, rfl⟩
    refine codeAny_mono (codeAny_bb J.inv.bare pl) fun r s1 ⟨as, sh, z, hr⟩ => ?_
    cases r with
    | error e => exact hr.elim
    | ok fl =>
      cases fl with
      | ret obj =>
        obtain ⟨e1, e2⟩ := hr
        subst e1 e2
        have hh : s1.heap = s'.heap.push { cls := .type "list", data := .seq #[] } := z.heap
        have kk : ∀ b ob, s'.heap.get? b = some ob → s1.heap.get? b = some ob := fun b ob e => by rw [hh]; exact Heap.get?_push_of_some _ e
        have hS : s1.heap.get? s'.heap.objs.size = some (lstObj #[] 0) := by rw [hh]; exact Heap.get?_push_size _ rfl
        refine ⟨rfl, hS, kk, J.of_zb' z ?_, fun q hq => ?_⟩
        · refine (Inv.lulled J.inv).laid (t' := (lulled s').toks) (o := .lst []) (fun b ob e => Heap.get?_push_of_some _ e) (Nat.le_refl _) ⟨Nat.zero_le _, [], 0, .nil, Heap.get?_push_size _ rfl⟩
        · rw [zb_gens z rfl]; exact m.gens q hq
      | _ => exact hr.elim
  refine PySem.md_callType F.called_list (F.typeCall_list_1 _) F.entry_list_init hnew fun obj s1 h1 => ?_
  obtain ⟨rfl, hS, kk, J1, g1⟩ := h1
  refine ⟨⟨_, hS, rfl⟩, F.args_list_init_2 _ _, ?_⟩
  show wpAny _ X.A.in1.in1 (do let old ← Builtin.List.listItems (.ref s'.heap.objs.size); Builtin.List.listUpdate (.ref s'.heap.objs.size) (fun _ => #[]); letGo old.toList.reverse; Builtin.List.listExtendWith (.ref s'.heap.objs.size) (.ref it) .none) _ _ _
  refine wpAny_bind ?_
  unfold Builtin.List.listItems
  refine wpAny_bind (wpAny_seqItems hS rfl (wpAny_pure ?_))
  show wpAny _ X.A.in1.in1 (updateSeq s'.heap.objs.size (fun _ => #[]) >>= fun _ => letGo (#[] : Array Value).toList.reverse >>= fun _ => Builtin.List.listExtendWith (.ref s'.heap.objs.size) (.ref it) .none) _ _ _
  refine wpAny_bind (wpAny_updateSeq hS rfl ?_)
  have hS2 := Heap.get?_update_self (Obj.mapSeq (fun _ => (#[] : Array Value))) hS rfl
  refine wpAny_bind (wpAny_letGo ?_)
  unfold Builtin.List.listExtendWith
  have up : ∀ (h : Heap) (f : Obj → Obj), (∀ b o, b ≠ s'.heap.objs.size → s1.heap.get? b = some o → h.get? b = some o) → ∀ b o, b ≠ s'.heap.objs.size → s1.heap.get? b = some o → (h.update s'.heap.objs.size f).get? b = some o := fun h f q b o hb e =>
    (Heap.get?_update_other _ _ (Ne.symm hb)).trans (q b o hb e)
  have k2 := up _ (Obj.mapSeq (fun _ => (#[] : Array Value))) (fun b o _ e => e)
  have go1 := kk _ _ hgo
  refine wpAny_bind (wpAny_typeOf (s := { s1 with heap := _ }) (Gen0.typeIs (m.obj) (k2 _ _ (Ne.symm hSa) go1)) ?_)
  have h1 : Builtin.List.listSameRef (.ref s'.heap.objs.size) (.ref it) = false := by simp [Builtin.List.listSameRef, hSa]
  have h2 : (Value.type "generator" == Value.type "list") = false := by decide
  have h3 : (Value.type "generator" == Value.type "tuple") = false := by decide
  simp only [h1, h2, h3, Bool.or_false, Bool.false_eq_true, if_false]
  refine wpAny_bind (md_iter_gen (s := { s1 with heap := _ }) (k2 _ _ (Ne.symm hSa) go1) m.obj ?_)
  refine wpAny_bind (wpAny_holding ?_)
  unfold Builtin.List.listLengthHint
  refine wpAny_bind (wpAny_specialOf (s := { s1 with heap := _ }) (Gen0.typeIs (m.obj) (k2 _ _ (Ne.symm hSa) go1)) F.gen_no_len ?_)
  show wpAny _ X.A.in1.in1 (specialOf (Value.ref it) (Str.ofString "__length_hint__") >>= _) _ _ _
  refine wpAny_bind (wpAny_specialOf (s := { s1 with heap := _ }) (Gen0.typeIs (m.obj) (k2 _ _ (Ne.symm hSa) go1)) F.gen_no_hint ?_)
  refine wpAny_pure ?_
  show wpAny _ X.A.in1.in1 (rule "list.extend.makes-room" >>= fun _ => Builtin.List.listTouch (.ref s'.heap.objs.size) >>= fun _ =>
    again (.builtin "list.extend.loop" ⟨[.ref s'.heap.objs.size, .ref it, .none], []⟩)) _ _ _
  refine wpAny_bind (wpAny_rule ?_)
  refine wpAny_bind ?_
  show wpAny _ X.A.in1.in1 (updateSeq s'.heap.objs.size (·.push .none) >>= fun _ => updateSeq s'.heap.objs.size (·.pop)) _ _ _
  refine wpAny_bind (wpAny_updateSeq hS2 rfl ?_)
  have hS3 := Heap.get?_update_self (Obj.mapSeq (·.push Value.none)) hS2 rfl
  refine wpAny_updateSeq (hz := by seq_fits) hS3 rfl ?_
  have hS4 := Heap.get?_update_self (Obj.mapSeq (·.pop)) hS3 rfl
  have k4 := up _ (Obj.mapSeq (·.pop)) (up _ (Obj.mapSeq (·.push Value.none)) k2)
  refine wpAny_pure ⟨plainId_quiet F.plain_extend_loop _, ?_⟩
  have hH0 : (upd H s'.heap.objs.size (.lst [])) s'.heap.objs.size = some (.lst []) := upd_same ..
  have e0 : Ext H (upd H s'.heap.objs.size (.lst [])) := Ext.upd hn
  have J2 : In1 X (fp ++ (it, o) :: pins) σ (upd H s'.heap.objs.size (.lst [])) { s1 with heap := (((s1.heap.update s'.heap.objs.size (Obj.mapSeq (fun _ => (#[] : Array Value)))).update s'.heap.objs.size (Obj.mapSeq (·.push Value.none))).update s'.heap.objs.size (Obj.mapSeq (·.pop))) } := by
    have q := J1.inv.write (t' := s1.toks) (x := s'.heap.objs.size) (e := s'.heap.objs.size) (o := .lst []) (by rw [hH0]; trivial) (.inl rfl) k4 ⟨_, hS4⟩ ⟨Nat.zero_le _, [], _, .nil, hS4⟩
    rw [upd_upd] at q
    exact ⟨q, fun i k a c p fs cl e => J1.told i k a c p fs cl e⟩
  have J3 : In1 { X with A := X.A.in1.in1 } (fp ++ (it, o) :: pins) σ (upd H s'.heap.objs.size (.lst [])) _ := J2.reA (A' := X.A.in1.in1) rfl hr.hd
  have host : Host X.prog X.w X.K X.mg X.base k lo { X with A := X.A.in1.in1 } := by
    refine ⟨rfl, rfl, rfl, rfl, rfl, hc, ⟨hr.hd, ?_, ?_⟩, fun b hb => ?_, fun b hb => .inr (Nat.le_trans I.inv.sz (Nat.le_trans m.los hb)), fun x c e => ?_⟩
    · have := hr.dp; show X.A.depth + 3 * k + 5 < recursionLimit; omega
    · have := hr.un; show X.A.units + 1 + 1 + 16 * k + 200 < cLine; omega
    · obtain ⟨_, o2, ho, _⟩ := I.inv.stack.mem hb
      exact Nat.lt_of_lt_of_le (Heap.lt_size ho) m.los
    · obtain ⟨v, z⟩ := I.inv.cell x c e
      exact Nat.lt_of_lt_of_le z.lt m.los
  have oldn : ∀ {b : Addr} {ob : Obj}, s'.heap.get? b = some ob → H b = none → (upd H s'.heap.objs.size (.lst [])) b = none := fun {b ob} e q => by rw [upd_ne (Nat.ne_of_lt (Heap.lt_size e))]; exact q
  refine drainV (A := X.A.in1) (S := s'.heap.objs.size) (o := o) host rfl m.obj items st pins σ H hn (fun vs p2 H' s2 hs J' ex e gv => ⟨rfl, hQ _ vs p2 H' s2 hn hs (J'.reA (A' := X.A) rfl (I.inv.ok.hd hc)) ex e gv⟩)
    items T m.tm [] [] fp gp _ _ rfl J3 (fun q hq => ⟨oldn (J.inv.pin q (List.mem_append_right _ (List.mem_append_left _ hq))).1 (m.fpok q hq).1, (m.fpok q hq).2⟩) ⟨oldn hgo m.itok.1, m.itok.2⟩ g1 (m.tm _ _ e0.toL m.tt) m.gd e0 (upd_same ..) .nil (by simpa using hl)

def tListGV (tg : TG1) : TE := fun σ H Q => tg σ H fun T items H1 => (∀ x ∈ items, ∀ v H H', ExtL H H' → x v H → x v H') ∧ items.length ≤ sizeLine ∧
  ∀ S vs H', H1 S = none → Ext H1 H' → H' S = some (.lst vs) → Gave H' items vs → Q (.ref S) H'
/-- the expression list(g) -/
theorem pe_listGV {e : Expr} {tg : TG1} {nm : Str} {p pos : Pos} (h : PGenV X k e tg) (hr : Room (k + 3) X.A) (hc : X.calm = true) (hg : L2.Gl X nm) (hmg : X.mg nm = none) (hv : bootBuiltins nm = some (.type "list")) (hnm : nm ≠ "__name__" := by decide) (hdb : (nm == ("__debug__" : Str)) = false := by decide)
    (he : starEach [e] X.env = (false, eval e X.env) :: starEach [] X.env := by rfl) : PE1 X (.Call (.Name nm p) [e] [] pos) (tListGV tg) := by
  refine ⟨fun pins s σ H Q I hq => ?_⟩
  obtain ⟨mb, h1, h2⟩ := I.inv.mod.blt
  refine wpAny_Call_Name_kw (Calls.Name_function_global I.inv.ok.kind hg (Calls.loadGlobal_builtin (by rw [I.inv.ok.glob]; exact I.inv.mod.glob.keeps I.inv.bk) hmg (by rw [I.inv.ok.blt]; exact h1.keeps I.inv.bk) ((h2 nm hnm).trans hv) ?_) hdb)
  refine PyProof.Rows.callWith_type1 ?_ he rfl
  rw [he]
  show wpAny _ _ (spliced ((false, eval e X.env) :: backTo pos (starEach [] X.env))) _ _ s
  refine Calls.spliced_cons (mo (h.run pins s σ H _ I hq) fun u s' ⟨p2, H1, s1, T, items, hs, I1, m, st, hl, q⟩ => ?_)
  refine Calls.spliced_nil ?_
  exact call_listV hr hc I1 m st hl fun S vs p3 H' s2 hn hs3 J ex eS gv => ⟨p3, .ref S, H', hs.trans hs3, J, rfl, q S vs H' hn ex eS gv⟩
end
end Gk
/-! The generator hands_of. -/
namespace Tn
open PySem PySem.Spec PyProof.Rows L2 Gk
theorem gfnV_D {P : Program} {w : World} {K : PySem.W.Frag} {mg : Str → Option Value} {base : Heap} {x qual : Str} {params : Arguments} {body : List Stmt} {scope : Scope} {dvs : List V} {kws : List (Str × V)} {f : Addr} {fd : FuncData} {N ps : List Str} {sp : SpG1} {k : Nat}
    (F : FunD K x qual params body scope dvs kws f fd) (S : GScope N ps scope) (hcel : ∀ n, cellsFrom n scope.names [] = []) (hnc : ∀ x, scope.names.lookup x ≠ some .cell ∧ scope.names.lookup x ≠ some .free) (tm : ∀ vs H T items, sp vs H T items → T H ∧ TMono T)
    (len : ∀ vs H T items, sp vs H T items → vs.length = ps.length)
    (hbody : ∀ (cdv : Value) (L : Addr) (g : Nat) (vs : List V) (H : Hp) (T : Hp → Prop) (items : List Item), GX.Ok ⟨P, w, K, mg, base, k, N, qual, scope, f, cdv, L, g, T⟩ → sp vs H T items →
      ResV ⟨P, w, K, mg, base, k, N, qual, scope, f, cdv, L, g, T⟩ T items (.fresh (.func body (envOfC qual scope L f cdv))) [] [] (L2.start N vs)) :
    GFnV P w K mg base (k + 1) f fd ps sp := by
  obtain ⟨oc, od, dV, kV, doc, pm, an, cdv, ct, osl, rfl, lk, hcd, _, _⟩ := F.ex
  exact gfnV_of lk hcd S hcel hnc tm len fun L g vs H T items ok hsp => hbody cdv L g vs H T items ok hsp
theorem gfnV_never {P : Program} {w : World} {K : PySem.W.Frag} {mg : Str → Option Value} {base : Heap} {k : Nat} {f : Addr} {fd : FuncData} {ps : List Str} : GFnV P w K mg base k f fd ps (fun _ _ _ _ => False) := ⟨fun _ _ _ _ h => h.elim, fun _ _ _ _ _ _ _ _ _ _ _ _ _ _ _ _ _ _ _ h => h.elim⟩
abbrev sHands : Stmt := top 19
abbrev nHands : List Str := ["tree", "path", "dealt", "size", "number", "outlet"]
abbrev psHands : List Str := ["tree", "path", "dealt"]
theorem scHands : GScope nHands psHands (defScope sHands) := ⟨rfl, rfl, rfl, by decide +kernel, rfl, by decide +kernel, by decide +kernel⟩
abbrev pV (p : List Nat) : List V := p.map fun i => .int (i : Nat)
abbrev itH (r : List Nat × Nat) : Item := fun v H => ∃ a b, v = .ref a ∧ H a = some (.tup [.ref b, .int r.2]) ∧ H b = some (.tup (pV r.1))
theorem ExtU.ofL {H H' : Hp} (x : ExtL H H') : ExtU H H' := fun a vs h => x a _ (by intro l z; cases z) h
theorem tm_extU (Hs : Hp) : TMono (ExtU Hs) := fun H H' e x => x.trans (.ofL e)
theorem cat_path {K : PySem.W.Frag} {H : Hp} {Q : VK} {a q : Addr} {p : List Nat} {i : Nat} (hl : p.length ≤ 100) (ha : H a = some (.tup (pV p))) (hq : H q = some (.tup [.int i])) (h : ∀ b H', Evl.Ex H H' → H' b = some (.tup (pV (p ++ [i]))) → Q (.ref b) H') : rCatA K (.ref a) (.ref q) H Q := by
  refine ⟨a, q, _, _, rfl, rfl, Evl.st_of ha, Evl.st_of hq, Nat.le_trans (show _ ≤ 101 by simp; omega) (by decide), fun e => ?_, fun _ e => absurd e (by simp), fun e _ r hr => ?_⟩
  · refine h q H (fun _ _ z => z) ?_
    have : p = [] := List.map_eq_nil_iff.mp e
    subst this
    exact hq
  · refine h r _ (Evl.Ex.new hr) ?_
    rw [upd_same, show pV (p ++ [i]) = pV p ++ [V.int (i : Nat)] from by simp [pV]]
def spHands (d : Nat) : SpG1 := fun vs H T items => ∃ (v : V) (b : Addr) (t : Pt.Tr) (p : List Nat) (n : Nat) (Hs : Hp), vs = [v, .ref b, .int n] ∧ T = ExtU Hs ∧ ExtU Hs H ∧ TrAt Hs v t ∧ Hs b = some (.tup (pV p)) ∧ t.fit d ∧ p.length + d ≤ 100 ∧ items = (t.hands p n).map itH
section
variable {P : Program} {w : World} {K : PySem.W.Frag} {mg : Str → Option Value} {base : Heap} {f : Addr} {fd : FuncData}
abbrev gxH (P : Program) (w : World) (K : PySem.W.Frag) (mg : Str → Option Value) (base : Heap) (kc : Nat) (f : Addr) (cdv : Value) (L : Addr) (g : Nat) (Hs : Hp) : GX := ⟨P, w, K, mg, base, kc + 1, nHands, "hands_of", defScope sHands, f, cdv, L, g, ExtU Hs⟩
theorem hands_step (F : FnP K "hands_of" sHands f fd) (gLen : mg "len" = none) (gIsi : mg "isinstance" = none) (gStr : mg "str" = none) (gEnum : mg "enumerate" = none) (gRec : mg "hands_of" = some (.ref f))
    (d kc : Nat) (hk1 : 1 ≤ kc) (spR : SpG1) (GRec : GFnV P w K mg base kc f fd psHands spR) (hR : ∀ d', d = d' + 1 → spR = spHands d') : GFnV P w K mg base (kc + 2) f fd psHands (spHands d) := by
  have bRec : Binds K fd psHands [] := F.bindsN fun _ _ _ _ _ _ us hl => match us, hl with | [_, _, _], _ => rfl
  refine gfnV_D (k := kc + 1) F scHands (fun n => rfl) (fun x => ⟨no_of (by decide +kernel) x, no_of (by decide +kernel) x⟩) (fun vs H T items h => ?_) (fun vs H T items h => ?_) ?_
  · obtain ⟨v, b, t, p, n, Hs, rfl, rfl, x, _⟩ := h
    exact ⟨x, tm_extU Hs⟩
  · obtain ⟨v, b, t, p, n, Hs, rfl, _⟩ := h
    rfl
  · rintro cdv L g vs H T items ok ⟨v, b, t, p, n, Hs, rfl, rfl, xs0, hT, hp, hf, hpl, rfl⟩
    intro W wok s H1 r gok
    have tmG := tm_extU Hs
    show Sg P w (PhV (gxH P w K mg base kc f cdv L g Hs) ((t.hands p n).map itH) W) W.A (.func (defBody sHands) (gxH P w K mg base kc f cdv L g Hs).env) (denote table (.func (defBody sHands) (gxH P w K mg base kc f cdv L g Hs).env)) [] s
    have hov : ∀ W : Wk, W.Ok (gxH P w K mg base kc f cdv L g Hs) → W.A.over (.func (defBody sHands) (gxH P w K mg base kc f cdv L g Hs).env) [] = ((gxH P w K mg base kc f cdv L g Hs).cx W).A := fun W _ => rfl
    refine sg_funcB (G := gxH P w K mg base kc f cdv L g Hs) fun J => sg_cons (sg_if ?_)
    rw [hov W wok]
    cases t with
    | lf s0 =>
      have e := hT.lf
      subst e
      refine wpAny_mono (rn_pt (G := gxH P w K mg base kc f cdv L g Hs) (Q := fun b _ => b = false) ok r (pt_not (pt_val (pe_callB call_isi (by rfl) gIsi boot_isinstance (pa_cons (pv 0) (pa_cons (pe_bltn (v := .ty "str") (by rfl) gStr (by decide +kernel) rfl) pa_nil))))) ⟨_, rfl, _, _, _, _, true, rfl, .ty _, .base (.str s0), kit_ty (by decide +kernel), true, rfl, Gk.Ext.refl _, rfl⟩) (fun b s1 hb => ?_) fun _ _ z => z.elim
      obtain ⟨H2, r1, rfl⟩ := hb
      rw [if_neg (by decide), Pt.Tr.hands]
      exact sg_nil (sg_finV r1)
    | nd ts =>
      obtain ⟨a, vs, rfl, ha, hl⟩ := hT.nd
      have hlen := hl.len
      cases d with
      | zero => rw [Pt.Tr.fit] at hf; exact hf.elim
      | succ d' =>
      have eR := hR d' rfl
      subst eR
      rw [Pt.Tr.fit] at hf
      obtain ⟨h2, h4, hfl⟩ := hf
      refine wpAny_mono (rn_pt (G := gxH P w K mg base kc f cdv L g Hs) (Q := fun b _ => b = true) ok r (pt_not (pt_val (pe_callB call_isi (by rfl) gIsi boot_isinstance (pa_cons (pv 0) (pa_cons (pe_bltn (v := .ty "str") (by rfl) gStr (by decide +kernel) rfl) pa_nil))))) ⟨_, rfl, _, _, _, _, false, rfl, .ty _, .base (.tup (r.tt _ _ ha)), kit_ty (by decide +kernel), false, rfl, Gk.Ext.refl _, rfl⟩) (fun b s1 hb => ?_) fun _ _ z => z.elim
      obtain ⟨H2, r1, rfl⟩ := hb
      rw [if_pos rfl]
      refine sg_cons (sg_wrap ?_)
      rw [hov W wok]
      refine wpAny_mono (rn_ps (G := gxH P w K mg base kc f cdv L g Hs) (R := fun σ' _ => σ' = [some (.ref a), some (.ref b), some (.int n), some (.int (ts.length : Nat)), none, none]) ok r1 (ps_set (i := 3) scHands.nd rfl (Or.inl rfl) (pe_callB call_len (by rfl) gLen boot_len (pa_cons (pv 0) pa_nil))) ⟨_, rfl, .ref a, _, rfl, .inr ⟨vs, Evl.st_of (r1.tt _ _ ha), rfl⟩, Gk.Ext.refl _, ?_⟩) (fun fl s2 hb => ?_) fun _ _ z => z.elim
      · rw [hlen]; rfl
      obtain ⟨rfl, σ2, H3, r2, rfl⟩ := hb
      have hm : 0 < ts.length := by omega
      rw [Pt.Tr.hands, List.map_cons]
      refine sg_cons (sg_yieldIV (G := gxH P w K mg base kc f cdv L g Hs) (item := itH (p, n % ts.length)) (rest := (Pt.handsL ts p n ts.length 0).map itH) ok tmG wok (pe_tup (pa_cons (pv 1) (pa_cons (pe_op op_mod (pv 2) (pv 3)) pa_nil))) r2 ⟨_, rfl, _, rfl, _, rfl, _, _, rfl, rfl, (show (0 : Int) < (ts.length : Nat) by omega), (show 2 ≤ sizeLine by decide), fun q hq => ⟨Gk.Ext.upd hq, q, b, rfl, upd_same, ?_⟩⟩ hov rfl rfl rfl (fun W2 wok2 s3 H4 r3 => ?_) rfl rfl)
      · rw [upd_ne (ne_of_none (r2.tt _ _ hp) hq)]
        exact r2.tt _ _ hp
      have hr : ∀ i, i < vs.length → (Pt.handsL (ts.drop i) p n ts.length i).map itH = ((ts[i]?.getD (.lf ⟨#[]⟩)).hands (p ++ [i]) ((n + ts.length - 1 - i) / ts.length)).map itH ++ (Pt.handsL (ts.drop (i + 1)) p n ts.length (i + 1)).map itH := fun i hi => by
        have hi' : i < ts.length := by omega
        rw [List.drop_eq_getElem_cons hi', Pt.handsL, List.map_append, List.getElem?_eq_getElem hi']
        rfl
      refine sg_cons (sg_enumForV (G := gxH P w K mg base kc f cdv L g Hs) (f := f) (sp := spHands d') (a := a) (xs := vs) (Pv := fun σ => ∃ c1 c2 : Option V, σ = [some (.ref a), some (.ref b), some (.int n), some (.int (ts.length : Nat)), c1, c2])
        (its := fun i => ((ts[i]?.getD (.lf ⟨#[]⟩)).hands (p ++ [i]) ((n + ts.length - 1 - i) / ts.length)).map itH) (rest := fun i => (Pt.handsL (ts.drop i) p n ts.length i).map itH) ok tmG wok2 GRec (Nat.le_refl _) hk1 (fun _ => rfl) gRec F.kp bRec .nil ?B hr hov rfl rfl rfl ?hend rfl rfl gEnum (pa_cons (pv 0) pa_nil) ⟨_, _, rfl⟩ r3 ⟨_, rfl, rfl, Gk.Ext.refl _⟩ (hmono := fun σ H Q Q' k ⟨x, e, q⟩ => ⟨x, e, k _ _ q⟩))
      case hend =>
        rintro W3 wok3 own3 σ3 s4 H5 _ r4
        dsimp only
        rw [hlen, List.drop_length, Pt.handsL]
        exact sg_nil (sg_finV r4)
      case B =>
        refine ⟨fun H hH => hH _ _ ha, fun W wok i x σ H T hx pv tt hTT => ?_⟩
        obtain ⟨c1, c2, rfl⟩ := pv
        have hi : i < ts.length := by
          have := (List.getElem?_eq_some_iff.mp hx).1
          omega
        obtain ⟨u, hu, hTu⟩ := TrAtL.get _ _ i ts[i] hl (List.getElem?_eq_getElem hi)
        rw [hx] at hu
        obtain rfl := Option.some.inj hu
        refine ⟨_, _, (pg_tup rfl (pgs_cons (pg_name (i := 4) scHands.nd rfl (Or.inl rfl)) (pgs_cons (pg_name (i := 5) scHands.nd rfl (Or.inl rfl)) pgs_nil))), (pa_cons (pv 5) (pa_cons (pe_op op_catA (pv 1) (pe_tup (pa_cons (pv 4) pa_nil))) (pa_cons (pe_op op_fdiv (pe_op op_sub (pe_op op_add (pe_op op_sub (pv 2) (pv 4)) (pv 3)) pe_int) (pv 3)) pa_nil))), ?_⟩
        refine ⟨T, _, rfl, Evl.st_of hTT, rfl, _, _, rfl, _, _, rfl, rfl, Gk.Ext.refl _, ⟨_, _, rfl⟩, _, rfl, _, rfl, _, rfl, (show 1 ≤ sizeLine by decide), fun q hq => ?_⟩
        have hp1 : (upd H q (.tup [.int (i : Nat)])) b = some (.tup (pV p)) := by rw [upd_ne (ne_of_none (tt _ _ hp) hq)]; exact tt _ _ hp
        refine cat_path (by omega) hp1 upd_same fun b2 H2 x2 hb2 => ?_
        have x3 : Evl.Ex H H2 := (Evl.Ex.new hq).trans x2
        refine ⟨_, rfl, _, rfl, _, _, rfl, rfl, _, rfl, _, _, rfl, rfl, _, _, rfl, rfl, _, rfl, _, _, rfl, rfl, ⟨?_, ?_⟩, x3, ExtU H2, x, b2, ts[i], p ++ [i], (n + ts.length - 1 - i) / ts.length, H2, ?_, rfl, ExtU.refl _, TrAt.up (tt.trans (.of x3)) _ _ hTu, hb2, Pt.fitL_get _ _ _ _ hfl (List.getElem?_eq_getElem hi), ?_, ?_⟩
        · show (0 : Int) < (ts.length : Nat); omega
        · show ((ts.length : Nat) : Int) < 1073741824; omega
        · have e1 : ((n : Int) - (i : Nat) + (ts.length : Nat) - 1) / (ts.length : Nat) = (((n + ts.length - 1 - i) / ts.length : Nat) : Int) := by
            have e2 : (n : Int) - (i : Nat) + (ts.length : Nat) - 1 = ((n + ts.length - 1 - i : Nat) : Int) := by omega
            rw [e2]; rfl
          show [x, V.ref b2, V.int (((n : Int) - (i : Nat) + (ts.length : Nat) - 1) / (ts.length : Nat))] = _
          rw [e1]
        · rw [List.length_append, List.length_singleton]; omega
        · rw [List.getElem?_eq_getElem hi]; rfl
theorem ok_hands (F : FnP K "hands_of" sHands f fd) (gLen : mg "len" = none) (gIsi : mg "isinstance" = none) (gStr : mg "str" = none) (gEnum : mg "enumerate" = none) (gRec : mg "hands_of" = some (.ref f)) :
    ∀ d, GFnV P w K mg base (3 + 2 * d) f fd psHands (spHands d)
  | 0 => hands_step F gLen gIsi gStr gEnum gRec 0 1 (by decide) _ gfnV_never fun _ z => nomatch z
  | d + 1 => hands_step F gLen gIsi gStr gEnum gRec (d + 1) (3 + 2 * d) (by omega) _ (ok_hands F gLen gIsi gStr gEnum gRec d) fun d' z => by cases z; rfl
end
end Tn
/-! Run.hands. -/
namespace Pt
open PySem
mutual
theorem hands_len : ∀ (t : Tr) (d : Nat) (p : List Nat) (n : Nat), t.fit d → (t.hands p n).length + 1 ≤ 2 * 4 ^ d
  | .lf s, d, p, n, _ => by
    rw [Tr.hands]
    have := Nat.pow_pos (n := d) (show 0 < 4 by decide)
    simp only [List.length_nil]; omega
  | .nd ts, 0, p, n, h => by rw [Tr.fit] at h; exact h.elim
  | .nd ts, d + 1, p, n, h => by
    rw [Tr.fit] at h
    have q := handsL_len ts d p n ts.length 0 h.2.2
    rw [Tr.hands, List.length_cons, Nat.pow_succ]
    have : ts.length * (2 * 4 ^ d) ≤ 4 * (2 * 4 ^ d) := Nat.mul_le_mul_right _ h.2.1
    have := h.1
    omega
theorem handsL_len : ∀ (ts : List Tr) (d : Nat) (p : List Nat) (n m i : Nat), fitL ts d → (handsL ts p n m i).length + ts.length ≤ ts.length * (2 * 4 ^ d)
  | [], d, p, n, m, i, _ => by rw [handsL]; simp
  | t :: ts, d, p, n, m, i, h => by
    rw [fitL] at h
    have h1 := hands_len t d (p ++ [i]) ((n + m - 1 - i) / m) h.1
    have h2 := handsL_len ts d p n m (i + 1) h.2
    rw [handsL, List.length_append, List.length_cons, Nat.add_mul]
    omega
end
end Pt
namespace Tn
open PySem PySem.Spec PyProof.Rows L2 Gk
theorem scHandsM : FnScope ["self"] ["self"] (defScope (rI 9)) := ⟨rfl, rfl, rfl, by decide +kernel, rfl, by decide +kernel, by decide +kernel⟩
abbrev handD (r : List Nat × Nat) : PyData := .tuple [.tuple (r.1.map fun i => .int (i : Nat)), .int r.2]
theorem pV_dp {K : PySem.W.Frag} {H : Hp} : ∀ p : List Nat, DpAll K H (pV p) (p.map fun i => PyData.int (i : Nat))
  | [] => .nil
  | i :: p => .cons (.int _) (pV_dp p)
theorem gave_dp {K : PySem.W.Frag} {H : Hp} : ∀ {l : List (List Nat × Nat)} {vs : List V}, Gave H (l.map itH) vs → DpAll K H vs (l.map handD)
  | [], vs, h => by
    cases h
    exact .nil
  | r :: l, vs, h => by
    cases h with
    | cons h k =>
      obtain ⟨a, b, rfl, ha, hb⟩ := h
      exact .cons (.tup (Evl.st_of ha) (.cons (.tup (Evl.st_of hb) (pV_dp r.1)) (.cons (.int _) .nil))) (gave_dp k)
theorem hands_shaped (l : List (List Nat × Nat)) : SeqAt.shaped (.list (l.map handD)) = true ∧ PyData.canLay0 (.list (l.map handD)) = true := by
  have h0 : ∀ p : List Nat, PyData.canLayAll0 (p.map fun i => PyData.int (i : Nat)) = true ∧ PyData.depthAll (p.map fun i => PyData.int (i : Nat)) ≤ 0 := fun p => by
    induction p with
    | nil => exact ⟨rfl, Nat.le_refl _⟩
    | cons e es ih => rw [List.map_cons, PyData.canLayAll0, ih.1, PyData.depthAll]; exact ⟨rfl, Nat.max_le.mpr ⟨Nat.le_refl _, ih.2⟩⟩
  have h1 : ∀ es : List (List Nat × Nat), PyData.canLayAll0 (es.map handD) = true := fun es => by
    induction es with
    | nil => rfl
    | cons e es ih =>
      rw [List.map_cons, PyData.canLayAll0, ih]
      simp only [handD, PyData.canLay0, PyData.canLayAll0, (h0 e.1).1, Bool.and_true, Bool.true_and]
  have h2 : ∀ es : List (List Nat × Nat), PyData.depthAll (es.map handD) ≤ 2 := fun es => by
    induction es with
    | nil => exact Nat.zero_le _
    | cons e es ih =>
      rw [List.map_cons, PyData.depthAll]
      refine Nat.max_le.mpr ⟨?_, ih⟩
      have := (h0 e.1).2
      simp only [handD, PyData.depth, PyData.depthAll]
      omega
  have h3 : PyData.canLay0 (.list (l.map handD)) = true := by rw [PyData.canLay0, h1]
  refine ⟨?_, h3⟩
  unfold SeqAt.shaped
  rw [h3, Bool.true_and]
  refine decide_eq_true ?_
  rw [PyData.depth]
  have := h2 l
  omega
def spHm (K : PySem.W.Frag) (p gg gs : Addr) : Sp := fun vs H Q _ => ∃ (r C dx : Addr) (v pl : V) (z : Nat) (rest : List (Str × V)) (t : Pt.Tr), vs = [.ref r] ∧ H r = some (.ins C dx (fsR v pl z rest)) ∧ RC K p gg gs C ∧ TrAt H v t ∧ t.fit 2 ∧
  ∀ S vs' H', Evl.Ex H H' → H' S = some (.lst vs') → Gave H' ((t.hands [] z).map itH) vs' → Q (.ref S) H'
section
variable {P : Program} {w : World} {K : PySem.W.Frag} {mg : Str → Option Value} {base : Heap} {p gg gs f fHands : Addr} {fd fdHands : FuncData}
theorem ok_hm (F : FnM K "hands" "Run.hands" (rI 9) [] f fd) (FHands : FnP K "hands_of" sHands fHands fdHands) (gLen : mg "len" = none) (gIsi : mg "isinstance" = none) (gStr : mg "str" = none) (gEnum : mg "enumerate" = none) (gList : mg "list" = none) (gHands : mg "hands_of" = some (.ref fHands)) :
    FnMd P w K mg base 11 f fd ["self"] (spHm K p gg gs) := by
  have GHands : GFnV P w K mg base 7 fHands fdHands psHands (spHands 2) := ok_hands FHands gLen gIsi gStr gEnum gHands 2
  have bHands : Binds K fdHands psHands [] := FHands.bindsN fun _ _ _ _ _ _ us hl => match us, hl with | [_, _, _], _ => rfl
  refine fn_mdD F scHandsM (fun vs H Q E h => ?_) (fun cdv A outer s H vs Q hr h => ⟨_, (pss_one1 (ps_ret1 (pe_listGV (pgen_callV GHands (hr.mono (by decide)) rfl gHands FHands.kp bHands .nil (PA.up (fun _ _ z => z) (pa_cons (pe_fld (pv 0) rfl) (pa_cons (pe_tup pa_nil) (pa_cons (pe_fld (pv 0) rfl) pa_nil))))) (hr.mono (by decide)) rfl (by rfl) gList (by decide +kernel)))), ?_⟩)
  · obtain ⟨r, C, dx, v, pl, z, rest, t, rfl, _⟩ := h
    rfl
  · obtain ⟨r, C, dx, v, pl, z, rest, t, rfl, hr0, c, hT, hf, hQ⟩ := h
    refine ⟨_, rfl, r, C, dx, _, v, rfl, hr0, c.cls, c.nP, rfl, (show 0 ≤ sizeLine by decide), fun q hq => ?_⟩
    have x1 : Evl.Ex H (upd H q (.tup [])) := Evl.Ex.new hq
    refine ⟨_, rfl, r, C, dx, _, .int z, rfl, x1 _ _ hr0, c.cls, c.nS, rfl, ?_⟩
    refine ⟨_, _, ⟨v, q, t, [], z, upd H q (.tup []), rfl, rfl, ExtU.refl _, TrAt.up (.of x1) _ _ hT, upd_same, hf, by decide, rfl⟩, ?_, ?_, ?_⟩
    · rintro x hx v H1 H2 e h
      obtain ⟨i, _, rfl⟩ := List.mem_map.mp hx
      obtain ⟨a, b, rfl, ha, hb⟩ := h
      exact ⟨a, b, rfl, ExtU.ofL e _ _ ha, ExtU.ofL e _ _ hb⟩
    · have := Pt.hands_len t 2 [] z hf
      rw [List.length_map]
      exact Evl.sz_of (by omega)
    · intro S vs' H' hS x2 hS2 gv
      exact hQ S vs' H' (x1.trans x2) hS2 gv
end
end Tn
/-! The law: what it calls, its state. -/
namespace Tn
open PySem PySem.Spec PyProof.Rows L2 Gk
abbrev sLaw : Stmt := top 40
abbrev nLaw : List Str := ["_law_script", "_law_bag_here", "_law_turn", "_law_tree_here", "_law_size", "_law_at_z", "_law_rounds", "_law_tally", "_law_found", "_law_name", "_law_above", "_law_below", "_law_number", "_law_k", "_law_spots", "_law_width_here", "_law_first", "_law_later"]
theorem scLaw : FnScope nLaw ["_law_script"] (defScope sLaw) := ⟨rfl, rfl, rfl, by decide +kernel, rfl, by decide +kernel, by decide +kernel⟩
def inFor (s : Stmt) (j : Nat) : Stmt := match s with
  | .For _ _ body _ _ => body.getD j (.Pass ⟨0, 0, 0, 0⟩)
  | _ => .Pass ⟨0, 0, 0, 0⟩
/-- the statements of the turn -/
abbrev lb (j : Nat) : Stmt := inFor ((defBody sLaw).getD 1 (.Pass ⟨0, 0, 0, 0⟩)) j
theorem cut_take (xs : List V) (n : Nat) : cutV xs none (some (n : Int)) = xs.take n := by
  unfold cutV HT.sIx
  simp only [List.drop_zero, Nat.sub_zero]
  by_cases h : n ≤ xs.length
  · rw [if_neg (by omega), Int.toNat_natCast, Nat.min_eq_left h]
  · rw [if_neg (by omega), Int.toNat_natCast, Nat.min_eq_right (by omega), List.take_of_length_le (by omega), List.take_of_length_le (by omega)]
section
variable (P : Program) (w : World) (K : PySem.W.Frag) (mg : Str → Option Value) (base : Heap)
/-- a def of the text by its name -/
def HasF (k : Nat) (x : Str) (ps : List Str) (sp : Sp) : Prop := ∃ (f : Addr) (fd : FuncData), mg x = some (.ref f) ∧ PySem.W.keepIn K (.ref f) = true ∧ FnMd P w K mg base k f fd ps sp ∧ L2.Binds K fd ps []
def HasM (C : Addr) (k : Nat) (x : Str) (ps : List Str) (sp : Sp) : Prop := ∃ (f : Addr) (fd : FuncData), Meth K C x f ∧ FnMd P w K mg base k f fd ps sp ∧ L2.Binds K fd ps []
/-- what the law calls -/
structure LawF (p gg gs CR CT : Addr) : Prop where
  bag : HasF P w K mg base 1 "_law_bag" ["_law_script"] (spBag K)
  pull : HasF P w K mg base 1 "_law_pull" ["_law_bag_here", "_law_amount"] spPull
  lown : HasF P w K mg base 4 "_law_owners" ["_law_bag_here"] spLown
  tiny : HasF P w K mg base 6 "_law_tiny" ["_law_bag_here", "_law_pool"] spLtiny
  wid : HasF P w K mg base 5 "_law_width" ["_law_tree_here"] (spLwid 2)
  per : HasF P w K mg base 9 "period" ["tree"] spPer
  owners : HasF P w K mg base 8 "owners" ["tree"] spOwners
  share : HasF P w K mg base 8 "share" ["tree", "owner"] spShare
  count : HasF P w K mg base 8 "count" ["tree", "owner", "items"] spCount
  place : HasF P w K mg base 9 "place" ["tree", "owner", "number"] spPlace
  rcR : RC K p gg gs CR
  rcT : RC K p gg gs CT
  mR : mg "Run" = some (.ref CR)
  mT : mg "Tally" = some (.ref CT)
  mkR : ∃ (f : Addr) (fd : FuncData) (g : List Value → List Value → List Value), Mk K CR f ∧ FnMd P w K mg base 11 f fd ["self", "tree", "at"] (spInit K p gg gs) ∧ KBn K fd ["self", "tree", "at"] 2 ["at"] g (fun vs zs => vs ++ zs)
  mkT : ∃ (f : Addr) (fd : FuncData) (g : List Value → List Value → List Value), Mk K CT f ∧ FnMd P w K mg base 12 f fd ["self", "tree", "at"] (spTI K p gg gs CT) ∧ KBn K fd ["self", "tree", "at"] 2 ["at"] g (fun vs zs => vs ++ zs)
  dmT : HasM P w K mg base CT 10 "deal_many" ["self", "count"] (spDm CT (spTD K p gg gs CT))
  dmR : HasM P w K mg base CR 9 "deal_many" ["self", "count"] (spDm CR (spDeal K p gg gs))
  hands : HasM P w K mg base CR 11 "hands" ["self"] (spHm K p gg gs)
  rest : HasM P w K mg base CR 7 "rest" ["self"] (spRest K p gg gs)
  counts : ∃ (f : Addr) (fd : FuncData), Meth K CT "counts" f ∧ FnOk P w K mg base CX0 1 f fd ["self"] (spTC K p gg gs CT) ∧ L2.Binds K fd ["self"] []
  move : ∃ (f : Addr) (fd : FuncData), Meth K CR "move" f ∧ FnOk P w K mg base CX0 6 f fd ["self", "number"] (spSet K p gg gs) ∧ L2.Binds K fd ["self", "number"] []
  get : ∃ fd : FuncData, FnOk P w K mg base CX0 1 gg fd ["self"] (spGet K p gg gs) ∧ L2.Binds K fd ["self"] []
  eq : ∃ (f : Addr) (fd : FuncData), PySem.W.findIn K (.ref CR) "__eq__" = some (some (.ref f)) ∧ PySem.W.isFn K (.ref f) = true ∧ FnOk P w K mg base CX0 3 f fd ["self", "other"] (spSame K p gg gs CR) ∧ L2.Binds K fd ["self", "other"] []
  mro : PySem.W.mroIn K CR (.type "object") = some true
  ne : PySem.W.findIn K (.ref CR) "__ne__" = some (some (.builtin "object.__ne__"))
  gRange : mg "range" = none
  gLen : mg "len" = none
  gMin : mg "min" = none
end
/-- n items from z on -/
abbrev sq (t : Pt.Tr) (z n : Nat) : List Str := (List.range n).map fun i => t.own (z + i)
abbrev seqL (t : Pt.Tr) (z n : Nat) : List V := (sq t z n).map V.str
theorem sq_add (t : Pt.Tr) (z n m : Nat) : sq t z (n + m) = sq t z n ++ sq t (z + n) m := by
  unfold sq
  rw [List.range_add, List.map_append, List.map_map]
  refine congrArg _ (List.map_congr_left fun i _ => ?_)
  show t.own (z + (n + i)) = t.own (z + n + i)
  rw [Nat.add_assoc]
theorem sq_per {t : Pt.Tr} {n : Nat} (h : ∀ x, t.own (x + n) = t.own x) (z m : Nat) : ∀ k, sq t (z + n * k) m = sq t z m
  | 0 => by rw [Nat.mul_zero, Nat.add_zero]
  | k + 1 => by
    rw [← sq_per h z m k]
    unfold sq
    refine List.map_congr_left fun i _ => ?_
    rw [show z + n * (k + 1) + i = z + n * k + i + n by rw [Nat.mul_succ]; omega, h]
theorem seqL_add (t : Pt.Tr) (z n m : Nat) : seqL t z (n + m) = seqL t z n ++ seqL t (z + n) m := by
  show (sq t z (n + m)).map V.str = _
  rw [sq_add, List.map_append]
theorem sq_rep {t : Pt.Tr} {n : Nat} (h : ∀ x, t.own (x + n) = t.own x) (z : Nat) : ∀ k, (List.replicate k (seqL t z n)).flatten = seqL t z (n * k)
  | 0 => by simp [sq]
  | k + 1 => by
    rw [List.replicate_succ', List.flatten_append, sq_rep h z k, Nat.mul_succ, seqL_add, show seqL t (z + n * k) n = seqL t z n from congrArg (List.map V.str) (sq_per h z n k)]
    simp
theorem sq_take (t : Pt.Tr) (z n m : Nat) (h : n ≤ m) : (seqL t z m).take n = seqL t z n := by
  obtain ⟨d, rfl⟩ := Nat.exists_eq_add_of_le h
  rw [seqL_add, List.take_append_of_le_length (by simp [sq]), List.take_of_length_le (by simp [sq])]
theorem sq_len (t : Pt.Tr) (z n : Nat) : (seqL t z n).length = n := by simp [sq]
/-- the state of a turn: r the tally, q the found items -/
structure LawSt (CT b cc r got dx q : Addr) (v pl : V) (t : Pt.Tr) (n k z : Nat) (ss : List Str) (H : Hp) : Prop where
  bag : Bag cc H b
  tree : TrAt H v t
  found : H q = some (.lst (seqL t z (n * k)))
  tal : TalH CT r got dx v pl (z + n * k) ss (fun s => Pt.tally t.own s (z + n * k) - Pt.tally t.own s z) H
structure LawOk (t : Pt.Tr) (n k z : Nat) (ss : List Str) : Prop where
  fit : t.fit 2
  n0 : 0 < n
  n1 : n ≤ 144
  k0 : 1 ≤ k
  k1 : k ≤ 3
  z1 : z < 10 ^ 12
  dvd : n ∣ Pt.lcmF (t.ends 0 1) 1
  per : ∀ x, t.own (x + n) = t.own x
  mem : ∀ s, s ∈ ss ↔ ∃ e ∈ t.ends 0 1, e.2.2 = s
theorem LawSt.ex {CT b cc r got dx q : Addr} {v pl : V} {t : Pt.Tr} {n k z : Nat} {ss : List Str} {H H' : Hp} (h : LawSt CT b cc r got dx q v pl t n k z ss H) (x : Evl.Ex H H') : LawSt CT b cc r got dx q v pl t n k z ss H' := by
  obtain ⟨h1, kvs, h2, h3⟩ := h.tal
  exact ⟨h.bag.ex x, h.tree.up (.of x) _ _, x _ _ h.found, x _ _ h1, kvs, x _ _ h2, h3⟩
mutual
theorem own_good : ∀ (t : Pt.Tr) (d x : Nat), t.fit d → Pt.GoodS (t.own x)
  | .lf s, d, x, h => by
    rw [Pt.Tr.fit] at h
    rw [Pt.Tr.own]; exact h
  | .nd ts, 0, x, h => by rw [Pt.Tr.fit] at h; exact h.elim
  | .nd ts, d + 1, x, h => by
    rw [Pt.Tr.fit] at h
    rw [Pt.Tr.own]
    exact ownL_good ts d _ _ h.2.2 (Nat.mod_lt _ (by omega))
theorem ownL_good : ∀ (ts : List Pt.Tr) (d i j : Nat), Pt.fitL ts d → i < ts.length → Pt.GoodS (Pt.ownL ts i j)
  | [], d, i, j, _, h => by simp at h
  | t :: ts, d, 0, j, h, _ => by
    rw [Pt.fitL] at h
    rw [Pt.ownL]; exact own_good t d j h.1
  | t :: ts, d, i + 1, j, h, hi => by
    rw [Pt.fitL] at h
    rw [Pt.ownL]; exact ownL_good ts d i j h.2 (by simpa using hi)
end
theorem sq_good {t : Pt.Tr} {d : Nat} (h : t.fit d) (z n : Nat) : ∀ s ∈ sq t z n, Pt.GoodS s := fun s hs => by
  obtain ⟨i, _, rfl⟩ := List.mem_map.mp hs
  exact own_good t d _ h
theorem strs_dp {K : PySem.W.Frag} {H : Hp} : ∀ l : List Str, DpAll K H (l.map V.str) (l.map PyData.str)
  | [] => .nil
  | i :: p => .cons (.str _) (strs_dp p)
theorem strs_shaped {l : List Str} (h : ∀ s ∈ l, Pt.GoodS s) : SeqAt.shaped (.list (l.map PyData.str)) = true ∧ PyData.canLay0 (.list (l.map PyData.str)) = true := by
  have h0 : ∀ l : List Str, (∀ s ∈ l, Pt.GoodS s) → PyData.canLayAll0 (l.map PyData.str) = true ∧ PyData.depthAll (l.map PyData.str) ≤ 0 := fun l h => by
    induction l with
    | nil => exact ⟨rfl, Nat.le_refl _⟩
    | cons e es ih =>
      obtain ⟨i1, i2⟩ := ih fun s hs => h s (List.mem_cons_of_mem _ hs)
      rw [List.map_cons, PyData.canLayAll0, i1, PyData.canLay0, strOk_of (h e List.mem_cons_self), PyData.depthAll]
      exact ⟨rfl, Nat.max_le.mpr ⟨Nat.le_refl _, i2⟩⟩
  obtain ⟨i1, i2⟩ := h0 l h
  have i3 : PyData.canLay0 (.list (l.map PyData.str)) = true := by rw [PyData.canLay0, i1]
  refine ⟨?_, i3⟩
  unfold SeqAt.shaped
  rw [i3, Bool.true_and]
  refine decide_eq_true ?_
  rw [PyData.depth]
  omega
end Tn
/-! The law: the first test of a turn. -/
namespace Tn
open PySem PySem.Spec PyProof.Rows L2 Gk
abbrev sg (a : Option V) (b : Addr) (c : Option V) (v : V) (n z k : Nat) (r q : Addr) (l : L2.St) : L2.St := some (a.getD .non) :: some (.ref b) :: c :: some v :: some (.int n) :: some (.int z) :: some (.int k) :: some (.ref r) :: some (.ref q) :: l
abbrev LX (P : Program) (w : World) (K : PySem.W.Frag) (mg : Str → Option Value) (base : Heap) (f : Addr) (cdv : Value) (A : Around) (outer : List Env) (s0 : Shared) (H0 : Hp) : Cx := cxMd P w K mg base nLaw "law" (defScope sLaw) f cdv A outer s0 H0
section
variable {P : Program} {w : World} {K : PySem.W.Frag} {mg : Str → Option Value} {base : Heap} {p gg gs CR CT f : Addr} {cdv : Value} {A : Around} {outer : List Env} {s0 : Shared} {H0 : Hp}
theorem law5 (L : LawF P w K mg base p gg gs CR CT) (hr : Room 13 (LX P w K mg base f cdv A outer s0 H0).A) : ∃ t, PS1 (LX P w K mg base f cdv A outer s0 H0) (lb 5) t ∧
    ∀ (D : Ends) (H : Hp) (a : Option V) (b cc r got dx q : Addr) (c : Option V) (v pl : V) (t' : Pt.Tr) (n k z : Nat) (ss : List Str) (l : L2.St), LawSt CT b cc r got dx q v pl t' n k z ss H → LawOk t' n k z ss →
      (∀ H', Evl.Ex H H' → D.nx (sg a b c v n z k r q l) H') → t D (sg a b c v n z k r q l) H := by
  obtain ⟨fd, GGet, bGet⟩ := L.get
  refine ⟨_, (PS.up (fun _ _ z => z) (ps_if (PW.pt (pw_or (pt_cmpR (op_neD hr.units) (pe_op op_rep (pe_slice sl_list (pv 8) po_none (po_some (pv 4))) (pv 6)) (pv 8) (nomark _)) (pw_or1 (pt_cmpR op_ne (pe_prop (pv 7) L.rcT.cls L.rcT.pget GGet (hr.mono (by decide)) bGet .nil pass0 rfl) (pe_op op_add (pv 5) (pe_op op_mul (pv 4) (pv 6))) (nomark _)))))
        (pss_one (ps_ret pe_bl))
        pss_nil)), ?_⟩
  intro D H a b cc r got dx q c v pl t' n k z ss l S O hQ
  have hn1 := O.n1
  have hk1 := O.k1
  have hnk : n * k ≤ 432 := Nat.le_trans (Nat.mul_le_mul hn1 hk1) (by decide)
  obtain ⟨hr0, _⟩ := S.tal
  have hl := sq_len t' z (n * k)
  refine ⟨_, rfl, _, rfl, n, rfl, q, _, rfl, Evl.sq_of S.found, fun q1 h1 => ?_⟩
  have x1 : Evl.Ex H (upd H q1 (.lst (cutV (seqL t' z (n * k)) none (some (n : Int))))) := Evl.Ex.new h1
  rw [cut_take, sq_take t' z n (n * k) (Nat.le_mul_of_pos_right _ O.k0)] at x1 ⊢
  refine ⟨_, rfl, q1, (k : Int), _, rfl, rfl, upd_same, by omega, by omega, ?_, fun q2 h2 => ?_⟩
  · rw [sq_len, Int.toNat_natCast]
    exact Evl.sz_of (by omega)
  rw [Int.toNat_natCast, sq_rep O.per]
  have x2 := x1.trans (Evl.Ex.new (o := .lst (seqL t' z (n * k))) h2)
  have hs := strs_shaped (sq_good O.fit z (n * k))
  refine ⟨_, rfl, _, _, .lst (Evl.sq_of upd_same) (strs_dp _), .lst (Evl.sq_of (x2 _ _ S.found)) (strs_dp _), hs.1, hs.1, _, rfl, ?_⟩
  rw [SeqAt.eqv_refl _ hs.2]
  refine iteF ?_
  refine ⟨_, rfl, r, dx, _, rfl, x2 _ _ hr0, r, CT, dx, _, _, rfl, x2 _ _ hr0, L.rcT, rfl, ?_⟩
  refine ⟨_, rfl, _, rfl, _, rfl, _, _, rfl, rfl, .inl ⟨by omega, by omega⟩, _, _, rfl, rfl, rfl, _, rfl, ?_⟩
  rw [show decide (V.int ((z + n * k : Nat) : Int) = V.int ((z : Int) + (n : Int) * (k : Int))) = true from decide_eq_true (by push_cast; rfl)]
  exact iteF (hQ _ x2)
end
end Tn
/-! The law: the owners of a turn. -/
namespace Pt
open PySem
theorem tally_le_add (a : Nat → Str) (n : Str) (x : Nat) : ∀ m, tally a n (x + m) ≤ tally a n x + m
  | 0 => Nat.le_refl _
  | m + 1 => by
    have := tally_le_add a n x m
    rw [← Nat.add_assoc, tally]
    split <;> omega
theorem spots_count (a : Nat → Str) (n : Str) (z len : Nat) : (spots a n z len).length ≤ len := by
  unfold spots
  exact Nat.le_trans (List.length_filter_le _ _) (by simp)
end Pt
namespace Tn
open PySem PySem.Spec PyProof.Rows L2 Gk
theorem ints_dp {K : PySem.W.Frag} {H : Hp} : ∀ l : List Int, DpAll K H (l.map V.int) (l.map PyData.int)
  | [] => .nil
  | i :: p => .cons (.int _) (ints_dp p)
theorem ints_shaped (l : List Int) : SeqAt.shaped (.list (l.map PyData.int)) = true ∧ PyData.canLay0 (.list (l.map PyData.int)) = true := by
  have h0 : ∀ l : List Int, PyData.canLayAll0 (l.map PyData.int) = true ∧ PyData.depthAll (l.map PyData.int) ≤ 0 := fun l => by
    induction l with
    | nil => exact ⟨rfl, Nat.le_refl _⟩
    | cons e es ih =>
      rw [List.map_cons, PyData.canLayAll0, ih.1, PyData.canLay0, PyData.depthAll]
      exact ⟨rfl, Nat.max_le.mpr ⟨Nat.le_refl _, ih.2⟩⟩
  obtain ⟨i1, i2⟩ := h0 l
  have i3 : PyData.canLay0 (.list (l.map PyData.int)) = true := by rw [PyData.canLay0, i1]
  refine ⟨?_, i3⟩
  unfold SeqAt.shaped
  rw [i3, Bool.true_and]
  refine decide_eq_true ?_
  rw [PyData.depth]
  omega
section
variable {P : Program} {w : World} {K : PySem.W.Frag} {mg : Str → Option Value} {base : Heap} {p gg gs CR CT f : Addr} {cdv : Value} {A : Around} {outer : List Env} {s0 : Shared} {H0 : Hp}
theorem law6 (L : LawF P w K mg base p gg gs CR CT) (hr : Room 13 (LX P w K mg base f cdv A outer s0 H0).A) : ∃ t, PS1 (LX P w K mg base f cdv A outer s0 H0) (lb 6) t ∧
    ∀ (D : Ends) (H : Hp) (a : Option V) (b cc r got dx q : Addr) (c : Option V) (v pl : V) (t' : Pt.Tr) (n k z : Nat) (ss : List Str) (c9 c10 c11 c12 c13 c14 c15 c16 c17 : Option V), LawSt CT b cc r got dx q v pl t' n k z ss H → LawOk t' n k z ss →
      (∀ H' d9 d10 d11 d12 d14, Evl.Ex H H' → D.nx (sg a b c v n z k r q [d9, d10, d11, d12, c13, d14, c15, c16, c17]) H') → t D (sg a b c v n z k r q [c9, c10, c11, c12, c13, c14, c15, c16, c17]) H := by
  obtain ⟨fOw, fdOw, gOw, kOw, GOw, bOw⟩ := L.owners
  obtain ⟨fSh, fdSh, gSh, kSh, GSh, bSh⟩ := L.share
  obtain ⟨fCn, fdCn, gCn, kCn, GCn, bCn⟩ := L.count
  obtain ⟨fPl, fdPl, gPl, kPl, GPl, bPl⟩ := L.place
  obtain ⟨fCo, fdCo, mCo, GCo, bCo⟩ := L.counts
  have gRange := L.gRange
  have gLen := L.gLen
  have gMin := L.gMin
  refine ⟨_, (ps_for1 (fun _ _ z => z) (pi_list1 rfl (pe_call1 GOw (hr.mono (by decide)) rfl gOw kOw bOw .nil (PA.up (fun _ _ z => z) (pa_cons (pv 3) pa_nil)))) (pg_name (i := 9) scLaw.nd rfl (Or.inr rfl))
        (pss_cons1 (ps_asg1 (fun _ _ z => z) (pe_call1 GSh (hr.mono (by decide)) rfl gSh kSh bSh .nil (PA.up (fun _ _ z => z) (pa_cons (pv 3) (pa_cons (pv 9) pa_nil)))) (pg_tup rfl (pgs_cons (pg_name (i := 10) scLaw.nd rfl (Or.inl rfl)) (pgs_cons (pg_name (i := 11) scLaw.nd rfl (Or.inl rfl)) pgs_nil))))
        (pss_cons1 (PS.up (fun _ _ z => z) (ps_if (pt_cmpR op_ne (pe_op op_mul (pe_dget (hu_of hr) (pe_meth0 (pv 7) L.rcT.cls mCo GCo (hr.mono (by decide)) bCo .nil pass0) (pv 9) (fun _ _ => rfl)) (pv 11)) (pe_op op_mul (pe_op op_mul (pv 10) (pv 4)) (pv 6)) (nomark _))
        (pss_one (ps_ret pe_bl))
        pss_nil))
        (pss_cons1 (ps_set1 (i := 12) (fun _ _ z => z) scLaw.nd rfl (Or.inr rfl) (pe_call1 GCn (hr.mono (by decide)) rfl gCn kCn bCn .nil (PA.up (fun _ _ z => z) (pa_cons (pv 3) (pa_cons (pv 9) (pa_cons (pv 5) pa_nil))))))
        (pss_cons1 (ps_setLc1 (i := 14) (own := [("_law_k", 13)]) (g := gName 13) (tt := tTest (tOp rEq (tOp (rIxL K) (tVar 8) (tVar 13)) (tVar 9))) (fun _ _ z => z) scLaw.nd rfl rfl (sw_true rfl rfl rfl (by decide +kernel)) (pi_range11 (fun _ _ z => z) rfl rfl gRange (pa_cons (pe_callB call_len (by rfl) gLen boot_len (pa_cons (pv 8) pa_nil)) pa_nil)) (blkOk_by (N := nLaw) (sc := defScope sLaw) (by decide +kernel)) (by decide +kernel) (fun _ _ _ _ _ => (pg_name (i := 13) scLaw.nd rfl (Or.inl rfl))) (fun _ _ _ _ _ => (pts_one (pt_cmpR op_eq (pe_ix ix_list (pv 8) (pv 13) fun _ _ => rfl) (pv 9) (nomark _)))) (fun _ _ _ _ _ => (PE.up (fun _ _ z => z) (pv 13))))
        (pss_one1 (ps_if1 (pt_cmp1 (fun _ _ z => z) (op_neD hr.units) (pe_lc1 (own := [("_law_k", 13)]) (g := gName 13) (tt := tYes) (fun _ _ z => z) scLaw.nd (pi_range11 (fun _ _ z => z) rfl rfl gRange (pa_cons (pe_callB (call_min2 rfl) (by rfl) gMin boot_min (pa_cons pe_int (pa_cons (pe_callB call_len (by rfl) gLen boot_len (pa_cons (pv 14) pa_nil)) pa_nil))) pa_nil)) (blkOk_by (N := nLaw) (sc := defScope sLaw) (by decide +kernel)) (by decide +kernel) (fun _ _ _ _ _ => (pg_name (i := 13) scLaw.nd rfl (Or.inl rfl))) (fun _ _ _ _ _ => pts_nil) (fun _ _ _ _ _ => (pe_call1 GPl (hr.mono (by decide)) rfl gPl kPl bPl .nil (PA.up (fun _ _ z => z) (pa_cons (pv 3) (pa_cons (pv 9) (pa_cons (pe_op op_add (pv 12) (pv 13)) pa_nil))))))) (pe_lc1 (own := [("_law_k", 13)]) (g := gName 13) (tt := tYes) (fun _ _ z => z) scLaw.nd (pi_list1 rfl (PE.up (fun _ _ z => z) (pe_slice sl_list (pv 14) po_none (po_some pe_int)))) (blkOk_by (N := nLaw) (sc := defScope sLaw) (by decide +kernel)) (by decide +kernel) (fun _ _ _ _ _ => (pg_name (i := 13) scLaw.nd rfl (Or.inl rfl))) (fun _ _ _ _ _ => pts_nil) (fun _ _ _ _ _ => (PE.up (fun _ _ z => z) (pe_op op_add (pv 5) (pv 13))))) (nomark _))
        (PSs.up (fun _ _ z => z) (pss_one (ps_ret pe_bl)))
        pss_nil1))))))), ?_⟩
  intro D H a b cc r got dx q c v pl t' n k z ss c9 c10 c11 c12 c13 c14 c15 c16 c17 S O hQ
  have hn1 := O.n1
  have hk1 := O.k1
  have hnk : n * k ≤ 432 := Nat.le_trans (Nat.mul_le_mul hn1 hk1) (by decide)
  refine ⟨_, rfl, v, t', rfl, S.tree, O.fit, fun po ow H1 hpo x1 how nd mem hlo => ⟨po, rfl, ⟨_, .inl (.inl how)⟩, ?_⟩⟩
  refine for_list1 (xs := ow.map V.str) (fun i σ H' => Evl.Ex H1 H' ∧ ∃ d9 d10 d11 d12 d14, σ = sg a b c v n z k r q [d9, d10, d11, d12, c13, d14, c15, c16, c17]) ?_ ?_ ?_ ?_ ?_
  · rintro i σ H2 H3 x ⟨x2, e⟩
    exact ⟨x2.trans x, e⟩
  · exact ⟨fun _ _ z => z, _, _, _, _, _, rfl⟩
  · rintro i σ H2 _ ⟨x2, _⟩
    exact .inl (.inl (x2 _ _ how))
  · rintro i y σ H2 hy ⟨x2, d9, d10, d11, d12, d14, rfl⟩
    obtain ⟨s, hs, rfl⟩ : ∃ s, ow[i]? = some s ∧ y = V.str s := by
      rw [List.getElem?_map] at hy
      cases e : ow[i]? with
      | none => rw [e] at hy; cases hy
      | some s => rw [e] at hy; exact ⟨s, rfl, (Option.some.inj hy).symm⟩
    have hms : s ∈ ss := (O.mem s).mpr ((mem s).mp (List.mem_of_getElem? hs))
    have S2 := S.ex (x1.trans x2)
    refine ⟨_, rfl, _, rfl, v, t', s, rfl, S2.tree, O.fit, fun pa H3 hpa x3 h3 => ⟨pa, _, rfl, Evl.st_of h3, rfl, _, _, rfl, _, _, rfl, rfl, ?_⟩⟩
    have x13 := x1.trans (x2.trans x3)
    have S3 := S.ex x13
    obtain ⟨hr3, kvs, hg3, hk3⟩ := S3.tal
    have hcnt : Pt.tally t'.own s (z + n * k) - Pt.tally t'.own s z ≤ 432 := by
      have := Pt.tally_le_add t'.own s z (n * k)
      omega
    have W0 := Pt.lcmF_ok (t'.ends 0 1) 1 (by decide) (Pt.ends_pos t' 0 1 (by decide) O.fit.ok)
    have hsl := Pt.share_law t' O.fit.ok s _ n k z W0.2.2 W0.1 O.per O.dvd
    refine ⟨_, rfl, r, dx, _, rfl, hr3, rfl, r, got, dx, v, pl, z + n * k, ss, _, rfl, S3.tal, L.rcT, fun q4 kvs4 h4 hk4 => ?_⟩
    have x4 : Evl.Ex H (upd H3 q4 (.dK kvs4)) := x13.trans (Evl.Ex.new h4)
    refine ⟨_, rfl, q4, .int (Pt.tally t'.own s (z + n * k) - Pt.tally t'.own s z : Nat), rfl, ?_, ?_⟩
    · have q := DGet.k (k := .inr s) (show (upd H3 q4 (.dK kvs4)) q4 = some (.dK kvs4) from upd_same)
      rw [hk4.2 s hms] at q
      exact q
    refine ⟨_, rfl, _, _, rfl, rfl, .inl ⟨by omega, by omega⟩, _, rfl, _, rfl, _, _, rfl, rfl, .inr ⟨by omega, by omega⟩, _, rfl, _, _, rfl, rfl, .inr ⟨by omega, by omega⟩, rfl, _, rfl, ?_⟩
    rw [show decide (V.int (((Pt.tally t'.own s (z + n * k) - Pt.tally t'.own s z : Nat) : Int) * ((Pt.shareF s (t'.ends 0 1) 0 1).2 : Int)) = V.int (((Pt.shareF s (t'.ends 0 1) 0 1).1 : Int) * (n : Int) * (k : Int))) = true from decide_eq_true (congrArg V.int (by exact_mod_cast hsl))]
    refine iteF ?_
    have S4 := S.ex x4
    refine ⟨_, rfl, _, rfl, _, rfl, v, t', s, z, rfl, S4.tree, O.fit, fun H5 x5 => ?_⟩
    rw [Pt.cnts_tally s t' O.fit.ok]
    have x05 := x4.trans x5
    have S5 := S.ex x05
    refine ⟨_, rfl, _, _, rfl, .inl ⟨_, Evl.sq_of S5.found, rfl⟩, (n * k : Nat), by rw [sq_len], by omega, by omega, fun D5 hD5 => ?_⟩
    refine comp_range1 (n := n * k) (fun i H' => Evl.Ex H5 H' ∧ H' D5 = some (.lst ((Pt.spots t'.own s z i).map fun j => V.int (j : Nat)))) ?_ ?_ ?_ ?_
    · rintro i H6 H7 x ⟨a1, a2⟩
      exact ⟨a1.trans x, x _ _ a2⟩
    · exact ⟨Evl.Ex.new hD5, upd_same⟩
    · rintro i H6 hi ⟨a1, a2⟩
      have S6 := S5.ex a1
      have hat : atI (seqL t' z (n * k)) ((i : Nat) : Int) = some (V.str (t'.own (z + i))) := atI_nat (by
        rw [List.getElem?_map, List.getElem?_map, List.getElem?_range hi]; rfl)
      refine ⟨rfl, _, rfl, _, rfl, q, _, i, _, rfl, by rw [Int.zero_add], Evl.sq_of S6.found, hat, _, rfl, rfl, _, rfl, ite2 (fun hh => ?_) fun hh => ?_⟩
      · have h' : t'.own (z + i) = s := by
          have := of_decide_eq_true hh
          injection this
        refine ⟨_, rfl, _, a2, Evl.sz_lt (by rw [List.length_map]; have := Pt.spots_count t'.own s z i; omega), a1.mut hD5, ?_⟩
        rw [upd_same, Pt.spots_succ, if_pos h', List.map_append, Int.zero_add]; rfl
      · have h' : ¬ t'.own (z + i) = s := fun e => hh (decide_eq_true (congrArg V.str e))
        refine ⟨a1, ?_⟩
        rw [a2, Pt.spots_succ, if_neg h', List.append_nil]
    rintro H6 ⟨a1, hsp⟩
    have x06 := x05.trans a1
    have S6 := S.ex x06
    have hspl := Pt.spots_count t'.own s z (n * k)
    have hat := fun j y => Pt.spots_at t'.own s z (n * k) j y
    generalize Pt.spots t'.own s z (n * k) = sp at hsp hspl hat
    refine ⟨_, rfl, _, _, rfl, .inl ⟨_, Evl.sq_of hsp, rfl⟩, _, _, rfl, ((min sp.length 3 : Nat) : Int), ?_, by omega, by omega, fun D6 hD6 => ?_⟩
    · rw [List.length_map]
      refine congrArg (fun x => [V.int x]) ?_
      split <;> omega
    refine comp_range1 (n := min sp.length 3) (fun i H' => Evl.Ex H6 H' ∧ H' D6 = some (.lst (((sp.take i).map fun j => ((z : Int) + (j : Nat))).map V.int))) ?_ ?_ ?_ ?_
    · rintro i H7 H8 x ⟨a1, a2⟩
      exact ⟨a1.trans x, x _ _ a2⟩
    · exact ⟨Evl.Ex.new hD6, upd_same⟩
    · rintro i H7 hi ⟨b1, b2⟩
      have S7 := S6.ex b1
      have hi2 : i < sp.length := by omega
      obtain ⟨c1, c2⟩ := hat i sp[i] (List.getElem?_eq_getElem hi2)
      refine ⟨rfl, t_yes ⟨_, rfl, _, rfl, _, rfl, _, rfl, _, _, rfl, rfl, v, t', s, Pt.tally t'.own s z + i, z + sp[i], ?_, S7.tree, O.fit, c2, fun H8 x8 => ?_⟩⟩
      · show [v, V.str s, V.int (((Pt.tally t'.own s z : Nat) : Int) + (0 + (i : Int)))] = _
        rw [Int.zero_add]; rfl
      · refine ⟨_, x8 _ _ b2, Evl.sz_lt (by simp; omega), (b1.trans x8).mut hD6, ?_⟩
        rw [upd_same, List.take_succ, List.getElem?_eq_getElem hi2, Option.toList_some, List.map_append, List.map_append]
        rfl
    rintro H7 ⟨b1, hp1⟩
    have x07 := x06.trans b1
    have hsp7 := b1 _ _ hsp
    refine ⟨_, rfl, (3 : Int), rfl, _, _, rfl, Evl.sq_of hsp7, fun q8 h8 => ?_⟩
    rw [show cutV (sp.map fun j => V.int (j : Nat)) none (some (3 : Int)) = (sp.take 3).map fun j => V.int (j : Nat) from (cut_take _ 3).trans (by rw [List.map_take])]
    refine ⟨q8, rfl, ⟨_, .inl (.inl upd_same)⟩, fun D8 hD8 => ?_⟩
    have x08 : Evl.Ex H7 (upd H7 q8 (.lst ((sp.take 3).map fun j => V.int (j : Nat)))) := Evl.Ex.new h8
    refine comp_list1 (xs := (sp.take 3).map fun j => V.int (j : Nat)) (fun i H' => Evl.Ex (upd H7 q8 (.lst ((sp.take 3).map fun j => V.int (j : Nat)))) H' ∧ H' D8 = some (.lst ((((sp.take 3).take i).map fun j => ((z : Int) + (j : Nat))).map V.int))) ?_ ?_ ?_ ?_ ?_
    · rintro i H8 H9 x ⟨a1, a2⟩
      exact ⟨a1.trans x, x _ _ a2⟩
    · exact ⟨Evl.Ex.new hD8, upd_same⟩
    · rintro i H8 _ ⟨a1, _⟩
      exact .inl (.inl (a1 _ _ upd_same))
    · rintro i y H8 hy ⟨a1, a2⟩
      obtain ⟨j, hj, rfl⟩ : ∃ j, (sp.take 3)[i]? = some j ∧ y = V.int (j : Nat) := by
        rw [List.getElem?_map] at hy
        cases e : (sp.take 3)[i]? with
        | none => rw [e] at hy; cases hy
        | some j => rw [e] at hy; exact ⟨j, rfl, (Option.some.inj hy).symm⟩
      refine ⟨rfl, t_yes ⟨_, rfl, _, rfl, _, _, rfl, rfl, _, a2, Evl.sz_lt (by simp; omega), a1.mut hD8, ?_⟩⟩
      rw [upd_same, List.take_succ (l := sp.take 3), hj, Option.toList_some, List.map_append, List.map_append]
      rfl
    rintro H8 ⟨a1', hp2⟩
    have x8' : Evl.Ex H7 H8 := x08.trans a1'
    rw [List.take_of_length_le (by rw [List.length_map]; exact Nat.le_refl _)] at hp2
    have e3 : sp.take (min sp.length 3) = sp.take 3 := by
      by_cases h : sp.length ≤ 3
      · rw [Nat.min_eq_left h, List.take_of_length_le (Nat.le_refl _), List.take_of_length_le h]
      · rw [Nat.min_eq_right (by omega)]
    rw [e3] at hp1
    have hs8 := ints_shaped ((sp.take 3).map fun j => ((z : Int) + (j : Nat)))
    refine ⟨_, _, .lst (Evl.sq_of (x8' _ _ hp1)) (ints_dp _), .lst (Evl.sq_of hp2) (ints_dp _), hs8.1, hs8.1, _, rfl, ?_⟩
    rw [SeqAt.eqv_refl _ hs8.2]
    exact iteF ⟨x2.trans (x3.trans ((Evl.Ex.new h4).trans (x5.trans (a1.trans (b1.trans x8'))))), _, _, _, _, _, rfl⟩
  · rintro σ H2 ⟨x2, d9, d10, d11, d12, d14, rfl⟩
    exact hQ _ _ _ _ _ _ (x1.trans x2)
end
end Tn
/-! The law: the runs of a turn. -/
namespace Tn
open PySem PySem.Spec PyProof.Rows L2 Gk
theorem seq_eq (t : Pt.Tr) (z n : Nat) : ((List.range n).map fun i => V.str (t.own (z + i))) = seqL t z n := by simp [sq]
theorem good_of1 {t : Pt.Tr} (h : t.ok) : t.good (Pt.lcmF (t.ends 0 1) 1) := Pt.good_of t 0 1 _ (by decide) h fun e he => by
  rw [Nat.one_mul]
  exact (Pt.lcmF_ok (t.ends 0 1) 1 (by decide) (Pt.ends_pos t 0 1 (by decide) h)).2.2 e he
section
variable {P : Program} {w : World} {K : PySem.W.Frag} {mg : Str → Option Value} {base : Heap} {p gg gs CR CT f : Addr} {cdv : Value} {A : Around} {outer : List Env} {s0 : Shared} {H0 : Hp}
theorem law7 (L : LawF P w K mg base p gg gs CR CT) (hr : Room 13 (LX P w K mg base f cdv A outer s0 H0).A) : ∃ t, PSs1 (LX P w K mg base f cdv A outer s0 H0) [lb 7, lb 8, lb 9, lb 10, lb 11] t ∧
    ∀ (D : Ends) (H : Hp) (a : Option V) (b cc r got dx q : Addr) (c : Option V) (v pl : V) (t' : Pt.Tr) (n k z : Nat) (ss : List Str) (c9 c10 c11 c12 c13 c14 c15 c16 c17 : Option V), LawSt CT b cc r got dx q v pl t' n k z ss H → LawOk t' n k z ss →
      (∀ H' d15 d16 d17, Bag cc H' b → D.nx (sg a b c v n z k r q [c9, c10, c11, c12, c13, c14, d15, d16, d17]) H') → t D (sg a b c v n z k r q [c9, c10, c11, c12, c13, c14, c15, c16, c17]) H := by
  obtain ⟨fWi, fdWi, gWi, kWi, GWi, bWi⟩ := L.wid
  obtain ⟨fI, fdI, gI, MI, GI, bI⟩ := L.mkR
  obtain ⟨fHa, fdHa, mHa, GHa, bHa⟩ := L.hands
  obtain ⟨fRe, fdRe, mRe, GRe, bRe⟩ := L.rest
  obtain ⟨fMo, fdMo, mMo, GMo, bMo⟩ := L.move
  obtain ⟨fDm, fdDm, mDm, GDm, bDm⟩ := L.dmR
  obtain ⟨fEq, fdEq, hEq, iEq, GEq, bEq⟩ := L.eq
  have gR := L.mR
  refine ⟨_, (pss_cons1 (ps_set1 (i := 15) (fun _ _ z => z) scLaw.nd rfl (Or.inl rfl) (pe_call1 GWi (hr.mono (by decide)) rfl gWi kWi bWi .nil (PA.up (fun _ _ z => z) (pa_cons (pv 3) pa_nil))))
        (pss_cons1 (ps_par1 (i := 16) (j := 17) (fun _ _ z => z) rfl scLaw.nd rfl rfl (by decide) rfl rfl (pa_cons1 (pe_makeK1 (n := 1) (fun _ _ z => z) MI GI (hr.mono (by decide)) rfl gR bI (pa_cons1 (PE.up (fun _ _ z => z) (pv 3)) pa_nil1) (pk_cons (pv 5) pk_nil)) (pa_cons1 (pe_makeK1 (n := 1) (fun _ _ z => z) MI GI (hr.mono (by decide)) rfl gR bI (pa_cons1 (PE.up (fun _ _ z => z) (pv 3)) pa_nil1) (pk_cons (pe_op op_add (pv 5) (pv 15)) pk_nil)) pa_nil1)) (by rfl))
        (pss_cons1 (ps_if1 (Gk.PW1.pt (Gk.pw_or1 (pt_cmp1 (fun _ _ z => z) (op_neD hr.units) (pe_meth01 (PE.up (fun _ _ z => z) (pv 16)) L.rcR.cls mHa GHa (hr.mono (by decide)) bHa .nil) (pe_meth01 (PE.up (fun _ _ z => z) (pv 17)) L.rcR.cls mHa GHa (hr.mono (by decide)) bHa .nil) (nomark _)) (Gk.pw_or1 (pt_cmp1 (fun _ _ z => z) (op_neD hr.units) (pe_meth01 (PE.up (fun _ _ z => z) (pv 16)) L.rcR.cls mRe GRe (hr.mono (by decide)) bRe .nil) (pe_meth01 (PE.up (fun _ _ z => z) (pv 17)) L.rcR.cls mRe GRe (hr.mono (by decide)) bRe .nil) (nomark _)) (Gk.pw_or11 (pt_cmp1 (fun _ _ z => z) (op_eqO GEq (hr.mono (by decide)) bEq hEq iEq) (PE.up (fun _ _ z => z) (pv 16)) (PE.up (fun _ _ z => z) (pv 17)) (nomark _))))))
        (PSs.up (fun _ _ z => z) (pss_one (ps_ret pe_bl)))
        pss_nil1)
        (pss_cons1 (PS.up (fun _ _ z => z) (ps_expr (pe_meth (pv 17) L.rcR.cls mMo GMo (hr.mono (by decide)) bMo .nil pass0 (pa_cons (pv 5) pa_nil))))
        (pss_one1 (ps_if1 (Gk.PW1.pt (Gk.pw_or1 (pt_cmp1 (fun _ _ z => z) (op_neO GEq (hr.mono (by decide)) bEq hEq iEq L.mro L.ne) (PE.up (fun _ _ z => z) (pv 16)) (PE.up (fun _ _ z => z) (pv 17)) (nomark _)) (Gk.pw_or11 (pt_cmp1 (fun _ _ z => z) (op_neD hr.units) (pe_meth1 (PE.up (fun _ _ z => z) (pv 17)) L.rcR.cls mDm GDm (hr.mono (by decide)) bDm .nil (pa_cons1 (PE.up (fun _ _ z => z) (pv 4)) pa_nil1)) (PE.up (fun _ _ z => z) (pe_slice sl_list (pv 8) po_none (po_some (pv 4)))) (nomark _)))))
        (PSs.up (fun _ _ z => z) (pss_one (ps_ret pe_bl)))
        pss_nil1)))))), ?_⟩
  intro D H a b cc r got dx q c v pl t' n k z ss c9 c10 c11 c12 c13 c14 c15 c16 c17 S O hQ
  have hn1 := O.n1
  have hk1 := O.k1
  have hz1 := O.z1
  have hnk : n * k ≤ 432 := Nat.le_trans (Nat.mul_le_mul hn1 hk1) (by decide)
  have hg := good_of1 O.fit.ok
  have W0 := Pt.lcmF_ok (t'.ends 0 1) 1 (by decide) (Pt.ends_pos t' 0 1 (by decide) O.fit.ok)
  have W144 : Pt.lcmF (t'.ends 0 1) 1 ≤ 144 := Nat.le_of_dvd (by decide) (Pt.lcm144 O.fit)
  refine ⟨_, rfl, v, t', rfl, S.tree, O.fit, by decide, fun H1 x1 => ?_⟩
  generalize Pt.lcmF (t'.ends 0 1) 1 = wd at hg W0 W144
  have S1 := S.ex x1
  have hmost : ∀ m : Nat, m ≤ 2 * 10 ^ 12 → (m : Int) ≤ most := fun m h => by
    show (m : Int) ≤ 100000000000000000000000000000
    omega
  refine ⟨_, rfl, _, rfl, rfl, rfl, fun r1 e1 hr1 he1 ne1 => ?_⟩
  have y1 : Evl.Ex H1 (upd (upd H1 e1 (.own r1)) r1 (.ins CR e1 [])) := (Evl.Ex.new he1).trans (Evl.Ex.new (by rw [upd_ne ne1.symm]; exact hr1))
  refine ⟨r1, CR, e1, v, t', z, rfl, upd_same, L.rcR, S1.tree.up (.of y1) _ _, O.fit, hmost z (by omega), fun pl1 H2 o2 hr2 => ⟨rfl, ?_⟩⟩
  have x2 : Evl.Ex H1 H2 := fun a o h => o2 a o (ne_of_none h hr1) (y1 a o h)
  have S2 := S1.ex x2
  refine ⟨_, rfl, _, rfl, _, rfl, _, _, rfl, rfl, rfl, rfl, fun r2 e2 hr2' he2 ne2 => ?_⟩
  have y2 : Evl.Ex H2 (upd (upd H2 e2 (.own r2)) r2 (.ins CR e2 [])) := (Evl.Ex.new he2).trans (Evl.Ex.new (by rw [upd_ne ne2.symm]; exact hr2'))
  refine ⟨r2, CR, e2, v, t', z + wd, rfl, upd_same, L.rcR, S2.tree.up (.of y2) _ _, O.fit, hmost (z + wd) (by omega), fun pl2 H3 o3 hr3 => ⟨rfl, _, _, rfl, ?_⟩⟩
  have x3 : Evl.Ex H2 H3 := fun a o h => o3 a o (ne_of_none h hr2') (y2 a o h)
  have S3 := S2.ex x3
  have h13 : H3 r1 = some (.ins CR e1 (fsR v pl1 z [])) := x3 _ _ hr2
  refine ⟨_, rfl, r1, e1, _, rfl, h13, rfl, r1, CR, e1, v, pl1, z, [], t', rfl, h13, L.rcR, S3.tree, O.fit, fun q1 vs1 H4 x4 hq1 gv1 => ?_⟩
  have h24 : H4 r2 = some (.ins CR e2 (fsR v pl2 (z + wd : Nat) [])) := x4 _ _ hr3
  refine ⟨_, rfl, r2, e2, _, rfl, h24, rfl, r2, CR, e2, v, pl2, z + wd, [], t', rfl, h24, L.rcR, S3.tree.up (.of x4) _ _, O.fit, fun q2 vs2 H5 x5 hq2 gv2 => ?_⟩
  rw [Pt.hands_shift t' [] z wd O.fit.ok hg] at gv2
  have hsd := hands_shaped (t'.hands [] z)
  have gv1' : Gave H5 ((t'.hands [] z).map itH) vs1 := by
    refine Gave.up (Ext.toL x5) (fun x hx v H1 H2 e h => ?_) gv1
    obtain ⟨i, _, rfl⟩ := List.mem_map.mp hx
    obtain ⟨a, b, rfl, ha, hb⟩ := h
    exact ⟨a, b, rfl, ExtU.ofL e _ _ ha, ExtU.ofL e _ _ hb⟩
  refine ⟨_, _, .lst (Evl.sq_of (x5 _ _ hq1)) (gave_dp gv1'), .lst (Evl.sq_of hq2) (gave_dp gv2), hsd.1, hsd.1, _, rfl, ?_⟩
  rw [SeqAt.eqv_refl _ hsd.2]
  refine iteF ?_
  have x45 := x4.trans x5
  have h15 := x45 _ _ h13
  refine ⟨_, rfl, r1, e1, _, rfl, h15, rfl, r1, CR, e1, v, pl1, z, [], t', rfl, h15, L.rcR, S3.tree.up (.of x45) _ _, O.fit, fun v1 H6 x6 hv1 => ?_⟩
  have x46 := x45.trans x6
  have h26 := x46 _ _ hr3
  refine ⟨_, rfl, r2, e2, _, rfl, h26, rfl, r2, CR, e2, v, pl2, z + wd, [], t', rfl, h26, L.rcR, S3.tree.up (.of x46) _ _, O.fit, fun v2 H7 x7 hv2 => ?_⟩
  rw [Pt.take_shift t' z 1 wd O.fit.ok hg] at hv2
  have hfit := Pt.take_fit t' 2 z 1 O.fit
  refine ⟨_, _, (hv1.up (.of x7) _ _).dp, hv2.dp, trD_shaped hfit, trD_shaped hfit, _, rfl, ?_⟩
  rw [trD_refl hfit]
  refine iteF ?_
  have x47 := x46.trans x7
  have h17 := x47 _ _ h13
  have h27 := x47 _ _ hr3
  have S7 := S3.ex x47
  refine ⟨_, rfl, _, rfl, r1, r2, e1, e2, _, _, rfl, rfl, h17, h27, r1, r2, e1, e2, v, v, pl1, pl2, z, z + wd, t', rfl, h17, h27, L.rcR, S7.tree, S7.tree, O.fit, ⟨_, rfl⟩, _, rfl, ?_⟩
  rw [show decide (z = z + wd) = false from decide_eq_false (by omega)]
  refine iteF ?_
  refine ⟨_, rfl, r2, e2, _, rfl, h27, rfl, _, rfl, r2, CR, e2, _, (z : Int), rfl, h27, L.rcR, rfl, by show 3 < 1000; decide, by omega, hmost z (by omega), ?_⟩
  have n12 : r1 ≠ r2 := ne_of_none hr2 hr2'
  have nall : ∀ a o, H2 a = some o → a ≠ r2 := fun a o h => ne_of_none h hr2'
  have x8 : ∀ a o, a ≠ r2 → H7 a = some o → (upd H7 r2 (.ins CR e2 (putF "spot" (.int (z : Int)) (fsR v pl2 (z + wd : Nat) [])))) a = some o := fun a o n h => by rw [upd_ne n]; exact h
  have h18 := x8 _ _ n12 h17
  have h28 : (upd H7 r2 (.ins CR e2 (putF "spot" (.int (z : Int)) (fsR v pl2 (z + wd : Nat) [])))) r2 = some (.ins CR e2 (fsR v pl2 (z : Nat) [])) := upd_same
  generalize (upd H7 r2 (.ins CR e2 (putF "spot" (.int (z : Int)) (fsR v pl2 (z + wd : Nat) [])))) = H8 at x8 h18 h28 ⊢
  have u8 : ExtU H7 H8 := fun a vs h => x8 a _ (by rintro rfl; rw [h27] at h; cases h) h
  have T8 := S7.tree.up u8
  refine ⟨_, rfl, _, rfl, r1, r2, e1, e2, _, _, rfl, rfl, h18, h28, r1, r2, e1, e2, v, v, pl1, pl2, z, z, t', rfl, h18, h28, L.rcR, T8, T8, O.fit, _, rfl, _, rfl, ?_⟩
  rw [show decide (z = z) = true from decide_eq_true rfl]
  refine iteF ?_
  refine ⟨_, rfl, r2, e2, _, rfl, h28, rfl, _, rfl, r2, z, n, (fun i H' => H' r2 = some (.ins CR e2 (fsR v pl2 (z + i : Nat) [])) ∧ TrAt H' v t'), (fun b => b = r2), (fun i => t'.own (z + i)), rfl, by omega, ⟨h28, T8⟩, ?_, ⟨?_, ?_, ?_, ?_⟩, fun q9 H9 hq9 x9 hq9' s9 => ?_⟩
  · have := hmost (z + n) (by omega)
    push_cast at this
    exact this
  · rintro i H' ⟨a1, _⟩
    exact ⟨e2, v, pl2, [], a1, rfl, rfl⟩
  · rintro i H' H'' hk u ⟨a1, a2⟩
    exact ⟨hk _ _ rfl a1, a2.up u _ _⟩
  · rintro i H' b ⟨a1, _⟩ rfl e
    rw [a1] at e; cases e
  · rintro i H' Q hi ⟨a1, a2⟩ hq
    refine ⟨r2, CR, e2, v, pl2, z + i, [], t', rfl, a1, L.rcR, rfl, by show 0 < 100; decide, ?_, a2, O.fit, hq _ ⟨upd_same, ?_⟩ fun b o n h => ?_⟩
    · have := hmost (z + i + 1) (by omega)
      push_cast at this ⊢
      exact this
    · refine a2.up (fun a vs h => ?_) _ _
      rw [upd_ne (by rintro rfl; rw [a1] at h; cases h)]; exact h
    · rw [upd_ne n]; exact h
  · have hb9 : ∀ a o, a ≠ r2 → H7 a = some o → H9 a = some o := fun a o n h => x9 a o n (x8 a o n h)
    have hf9 : H9 q = some (.lst (seqL t' z (n * k))) := hb9 _ _ (nall _ _ S2.found) S7.found
    refine ⟨_, rfl, _, rfl, (n : Int), rfl, q, _, rfl, Evl.sq_of hf9, fun q10 h10 => ?_⟩
    rw [cut_take, sq_take t' z n (n * k) (Nat.le_mul_of_pos_right _ O.k0)]
    rw [seq_eq] at hq9'
    have hs := strs_shaped (sq_good O.fit z n)
    refine ⟨_, _, .lst (Evl.sq_of (Evl.Ex.new h10 _ _ hq9')) (strs_dp _), .lst (Evl.sq_of upd_same) (strs_dp _), hs.1, hs.1, _, rfl, ?_⟩
    rw [SeqAt.eqv_refl _ hs.2]
    refine iteF (hQ _ _ _ _ (Bag.ex ?_ (Evl.Ex.new h10)))
    obtain ⟨ns, p1, p2, p3, b1, b2, b3, b4⟩ := S7.bag
    obtain ⟨ns', p1', p2', p3', b1', b2', b3', b4'⟩ := S2.bag
    exact ⟨ns, p1, p2, p3, b1, hb9 _ _ (nall _ _ b2') b2, hb9 _ _ (nall _ _ b3') b3, b4⟩
end
end Tn
/-! The law. -/
namespace Tn
open PySem PySem.Spec PyProof.Rows L2 Gk
theorem ne_of_bag {cc b q : Addr} {H : Hp} {ss : List Str} (B : Bag cc H b) (h : H q = some (.lst (ss.map V.str))) : b ≠ q := by
  rintro rfl
  obtain ⟨ns, p1, p2, p3, b1, b2, b3, b4⟩ := B
  rw [b3] at h
  injection h with h
  injection h with h
  cases ss with
  | nil => cases h
  | cons s ss => injection h with h1 h2; cases h1
def spLaw (K : PySem.W.Frag) : Sp := fun vs H Q _ => ∃ (a : Addr) (ns : List Int), vs = [.ref a] ∧ SqL K H a (ns.map V.int) ∧ ∀ H', Q (.bl true) H'
section
variable {P : Program} {w : World} {K : PySem.W.Frag} {mg : Str → Option Value} {base : Heap} {p gg gs CR CT f : Addr} {cdv : Value} {A : Around} {outer : List Env} {s0 : Shared} {H0 : Hp}
theorem law_body (L : LawF P w K mg base p gg gs CR CT) (hr : Room 13 (LX P w K mg base f cdv A outer s0 H0).A) : ∃ t, PSs1 (LX P w K mg base f cdv A outer s0 H0) (defBody sLaw) t ∧
    ∀ (Q : VK) (H : Hp) (vs : List V), spLaw K vs H Q E0 → t { nx := fun _ H' => Q .non H', rt := Q } (L2.start nLaw vs) H := by
  obtain ⟨fBa, fdBa, gBa, kBa, GBa, bBa⟩ := L.bag
  obtain ⟨fPu, fdPu, gPu, kPu, GPu, bPu⟩ := L.pull
  obtain ⟨fLo, fdLo, gLo, kLo, GLo, bLo⟩ := L.lown
  obtain ⟨fTi, fdTi, gTi, kTi, GTi, bTi⟩ := L.tiny
  obtain ⟨fPe, fdPe, gPe, kPe, GPe, bPe⟩ := L.per
  obtain ⟨fI, fdI, gI, MI, GI, bI⟩ := L.mkT
  obtain ⟨fDm, fdDm, mDm, GDm, bDm⟩ := L.dmT
  have gT_ := L.mT
  have gRange := L.gRange
  obtain ⟨t5, h5, q5⟩ := law5 (f := f) (cdv := cdv) (A := A) (outer := outer) (s0 := s0) (H0 := H0) L hr
  obtain ⟨t6, h6, q6⟩ := law6 (f := f) (cdv := cdv) (A := A) (outer := outer) (s0 := s0) (H0 := H0) L hr
  obtain ⟨t7, h7, q7⟩ := law7 (f := f) (cdv := cdv) (A := A) (outer := outer) (s0 := s0) (H0 := H0) L hr
  refine ⟨_, (pss_cons1 (ps_set1 (i := 1) (fun _ _ z => z) scLaw.nd rfl (Or.inl rfl) (pe_call1 GBa (hr.mono (by decide)) rfl gBa kBa bBa .nil (PA.up (fun _ _ z => z) (pa_cons (pv 0) pa_nil))))
        (pss_cons1 (ps_for1 (fun _ _ z => z) (pi_range11 (fun _ _ z => z) rfl rfl gRange (pa_cons pe_int pa_nil)) (pg_name (i := 2) scLaw.nd rfl (Or.inl rfl))
        (pss_cons1 (ps_set1 (i := 3) (fun _ _ z => z) scLaw.nd rfl (Or.inr rfl) (pe_call1 GTi (hr.mono (by decide)) rfl gTi kTi bTi .nil (pa_cons1 (PE.up (fun _ _ z => z) (pv 1)) (pa_cons1 (pe_call1 GLo (hr.mono (by decide)) rfl gLo kLo bLo .nil (PA.up (fun _ _ z => z) (pa_cons (pv 1) pa_nil))) pa_nil1)))) (pss_cons1 (ps_asg1 (fun _ _ z => z) (pe_tup1 (pa_cons1 (pe_call1 GPe (hr.mono (by decide)) rfl gPe kPe bPe .nil (PA.up (fun _ _ z => z) (pa_cons (pv 3) pa_nil))) (pa_cons1 (pe_call1 GPu (hr.mono (by decide)) rfl gPu kPu bPu .nil (PA.up (fun _ _ z => z) (pa_cons (pv 1) (pa_cons (pe_op op_pow pe_int pe_int) pa_nil)))) pa_nil1))) (pg_tup rfl (pgs_cons (pg_name (i := 4) scLaw.nd rfl (Or.inl rfl)) (pgs_cons (pg_name (i := 5) scLaw.nd rfl (Or.inr rfl)) pgs_nil)))) (pss_cons1 (ps_set1 (i := 6) (fun _ _ z => z) scLaw.nd rfl (Or.inl rfl) (pe_op1 (fun _ _ z => z) op_add (PE.up (fun _ _ z => z) pe_int) (pe_call1 GPu (hr.mono (by decide)) rfl gPu kPu bPu .nil (PA.up (fun _ _ z => z) (pa_cons (pv 1) (pa_cons pe_int pa_nil)))))) (pss_cons1 (ps_set1 (i := 7) (fun _ _ z => z) scLaw.nd rfl (Or.inl rfl) (pe_makeK1 (n := 1) (fun _ _ z => z) MI GI hr rfl gT_ bI (pa_cons1 (PE.up (fun _ _ z => z) (pv 3)) pa_nil1) (pk_cons (pv 5) pk_nil))) (pss_cons1 (ps_set1 (i := 8) (fun _ _ z => z) scLaw.nd rfl (Or.inr rfl) (pe_meth1 (PE.up (fun _ _ z => z) (pv 7)) L.rcT.cls mDm GDm (hr.mono (by decide)) bDm .nil (pa_cons1 (PE.up (fun _ _ z => z) (pe_op op_mul (pv 4) (pv 6))) pa_nil1))) (pss_cons1 h5 (pss_cons1 h6 h7))))))))
        (pss_one1 (ps_ret1 (PE.up (fun _ _ z => z) pe_bl))))), ?_⟩
  rintro Q H vs ⟨a, ns, rfl, hS, hQ⟩
  refine ⟨_, rfl, a, ns, rfl, hS, fun cc b H1 hb hc _ B1 => ?_⟩
  refine ⟨(2 : Int), rfl, by decide, by decide, ?_⟩
  refine for_range1 (n := 2) (fun i σ H' => Bag cc H' b ∧ ∃ c2 c3 c4 c5 c6 c7 c8 c9 c10 c11 c12 c13 c14 c15 c16 c17, σ = [some (.ref a), some (.ref b), c2, c3, c4, c5, c6, c7, c8, c9, c10, c11, c12, c13, c14, c15, c16, c17]) ?_ ?_ ?_ ?_
  · rintro i σ H2 H3 x ⟨B, e⟩
    exact ⟨B.ex x, e⟩
  · exact ⟨B1, none, none, none, none, none, none, none, none, none, none, none, none, none, none, none, none, rfl⟩
  · rintro i σ H2 _ ⟨B, c2, c3, c4, c5, c6, c7, c8, c9, c10, c11, c12, c13, c14, c15, c16, c17, rfl⟩
    refine ⟨_, rfl, _, rfl, b, cc, rfl, B, fun po so H3 hpo x3 B3 hso l0 l1 gso => ?_⟩
    refine ⟨b, cc, po, so, rfl, B3, (ne_of_bag B3 hso).symm, hso, l0, by omega, gso, fun v t H4 x4 B4 hT hf => ?_⟩
    refine ⟨_, rfl, v, t, rfl, hT, hf, fun n H5 x5 n0 hd hper => ?_⟩
    have B5 := B4.ex x5
    have hn144 : n ≤ 144 := Nat.le_of_dvd (by decide) (Nat.dvd_trans hd (Pt.lcm144 hf))
    refine ⟨_, rfl, _, _, rfl, rfl, ⟨by decide, by decide, by decide⟩, b, cc, 10 ^ 12, rfl, B5, by decide, by decide, fun z H6 hz x6 B6 => ?_⟩
    have T6 : TrAt H6 v t := (hT.up (.of x5) _ _).up (x6.u B5) _ _
    refine ⟨by show 2 ≤ sizeLine; decide, fun p7 h7 => ⟨p7, _, rfl, Evl.st_of upd_same, rfl, _, _, rfl, _, _, rfl, rfl, ?_⟩⟩
    have x7 : Evl.Ex H6 (upd H6 p7 (.tup [V.int (n : Int), V.int (z : Int)])) := Evl.Ex.new h7
    have B7 := B6.ex x7
    have T7 := T6.up (.of x7) _ _
    generalize (upd H6 p7 (.tup [V.int (n : Int), V.int (z : Int)])) = H7 at x7 B7 T7 ⊢
    refine ⟨_, rfl, b, cc, 3, rfl, B7, by decide, by decide, fun k H8 hk x8 B8 => ⟨_, _, rfl, rfl, ?_⟩⟩
    have T8 := T7.up (x8.u B7) _ _
    show gName 6 (V.int ((1 : Int) + (k : Int))) _ _ _
    rw [show V.int ((1 : Int) + (k : Int)) = V.int ((k + 1 : Nat) : Int) from congrArg V.int (by push_cast; omega)]
    have hk1 : k + 1 ≤ 3 := by omega
    have hk0 : 1 ≤ k + 1 := by omega
    generalize k + 1 = rd at hk1 hk0 ⊢
    have hnk : n * rd ≤ 432 := Nat.le_trans (Nat.mul_le_mul hn144 hk1) (by decide)
    have hmost : ∀ m : Nat, m ≤ 2 * 10 ^ 12 → (m : Int) ≤ most := fun m h => by
      show (m : Int) ≤ 100000000000000000000000000000
      omega
    refine ⟨_, rfl, _, rfl, rfl, rfl, fun r e1 hr1 he1 ne1 => ?_⟩
    have y1 : Evl.Ex H8 (upd (upd H8 e1 (.own r)) r (.ins CT e1 [])) := (Evl.Ex.new he1).trans (Evl.Ex.new (by rw [upd_ne ne1.symm]; exact hr1))
    refine ⟨r, e1, v, t, z, rfl, upd_same, L.rcT, T8.up (.of y1) _ _, hf, hmost z (by omega), fun got pl ss H9 o9 ng hg9 tal9 mem => ⟨rfl, ?_⟩⟩
    have x9 : Evl.Ex H8 H9 := fun a o h => o9 a o (ne_of_none h hr1) (y1 a o h)
    have B9 := B8.ex x9
    have T9 := T8.up (.of x9) _ _
    have hr9 := tal9.1
    refine ⟨_, rfl, r, e1, _, rfl, hr9, rfl, _, rfl, _, rfl, _, _, rfl, rfl, .inl ⟨by omega, by omega⟩, ?_⟩
    refine ⟨r, z, n * rd, (fun i H' => TalH CT r got e1 v pl (z + i) ss (fun s => Pt.tally t.own s (z + i) - Pt.tally t.own s z) H' ∧ TrAt H' v t), (fun b => b = r ∨ b = got), (fun i => t.own (z + i)), rfl, by omega, ⟨?_, T9⟩, ?_, ⟨?_, ?_, ?_, ?_⟩, fun q H10 hq0 x10 hq10 s10 => ?_⟩
    · have e : (fun s => Pt.tally t.own s (z + 0) - Pt.tally t.own s z) = fun _ => 0 := by
        funext s
        rw [Nat.add_zero, Nat.sub_self]
      rw [e]
      exact tal9
    · have := hmost (z + n * rd) (by omega)
      push_cast at this ⊢
      exact this
    · rintro i H' ⟨⟨a1, _⟩, _⟩
      exact ⟨e1, v, pl, _, a1, rfl, rfl⟩
    · rintro i H' H'' hkp u ⟨⟨a1, kvs, a2, a3⟩, a4⟩
      exact ⟨⟨hkp _ _ (.inl rfl) a1, kvs, hkp _ _ (.inr rfl) a2, a3⟩, a4.up u _ _⟩
    · rintro i H' b' ⟨⟨a1, kvs, a2, a3⟩, a4⟩ (rfl | rfl) e
      · rw [a1] at e; cases e
      · rw [a2] at e; cases e
    · rintro i H' Q' hi ⟨tal, a4⟩ hq
      refine ⟨r, got, e1, v, pl, z + i, t, ss, _, rfl, tal, L.rcT, ?_, a4, hf, ?_, fun H'' ex tal' => hq H'' ⟨?_, ?_⟩ ex⟩
      · have := hmost (z + i + 1) (by omega)
        push_cast at this ⊢
        exact this
      · obtain ⟨e, he, hn, _⟩ := Pt.end_of t hf.ok (z + i)
        exact (mem _).mpr ⟨e, he, hn⟩
      · have e : (fun s => Pt.tally t.own s (z + (i + 1)) - Pt.tally t.own s z) = fun s => (Pt.tally t.own s (z + i) - Pt.tally t.own s z) + if t.own (z + i) = s then 1 else 0 := by
          funext s
          have := Pt.tally_mono t.own s z i
          rw [← Nat.add_assoc, Pt.tally]
          split <;> omega
        rw [e]
        exact tal'
      · refine a4.up (fun a vs h => ex _ _ ?_ h) _ _
        obtain ⟨a1, kvs, a2, a3⟩ := tal
        rintro (rfl | rfl)
        · rw [a1] at h; cases h
        · rw [a2] at h; cases h
    · obtain ⟨tal, T10⟩ := s10
      rw [seq_eq] at hq10
      have B10 : Bag cc H10 b := by
        obtain ⟨ns', p1, p2, p3, b1, b2, b3, b4⟩ := B9
        obtain ⟨_, kvs, hgk, _⟩ := tal9
        refine ⟨ns', p1, p2, p3, b1, x10 _ _ ?_ b2, x10 _ _ ?_ b3, b4⟩
        · rintro (rfl | rfl)
          · rw [hr9] at b2; cases b2
          · rw [hgk] at b2; cases b2
        · rintro (rfl | rfl)
          · rw [hr9] at b3; cases b3
          · rw [hgk] at b3; cases b3
      have S10 : LawSt CT b cc r got e1 q v pl t n rd z ss H10 := ⟨B10, T10, hq10, tal⟩
      have O : LawOk t n rd z ss := ⟨hf, n0, hn144, hk0, hk1, hz, hd, hper, mem⟩
      refine q5 _ H10 (some (.ref a)) b cc r got e1 q _ v pl t n rd z ss _ S10 O fun H11 x11 => ?_
      refine q6 _ H11 (some (.ref a)) b cc r got e1 q _ v pl t n rd z ss _ _ _ _ _ _ _ _ _ (S10.ex x11) O fun H12 d9 d10 d11 d12 d14 x12 => ?_
      refine q7 _ H12 (some (.ref a)) b cc r got e1 q _ v pl t n rd z ss _ _ _ _ _ _ _ _ _ ((S10.ex x11).ex x12) O fun H13 d15 d16 d17 B13 => ?_
      exact ⟨B13, _, _, _, _, _, _, _, _, _, _, _, _, _, _, _, _, rfl⟩
  · rintro σ H2 _
    exact hQ H2
end
end Tn
/-! What the head must tell, and the law's promise from it. -/
namespace Tn
open PySem PySem.Spec PyProof.Rows L2 Gk
abbrev TD (K : PySem.W.Frag) (mg : Str → Option Value) (x : Str) (st : Stmt) : Prop := ∃ (f : Addr) (fd : FuncData), FnP K x st f fd ∧ mg x = some (.ref f)
abbrev TM (K : PySem.W.Frag) (C : Addr) (x qual : Str) (st : Stmt) : Prop := ∃ (f : Addr) (fd : FuncData), FnM K x qual st [] f fd ∧ Meth K C x f
structure TextF (P : Program) (K : PySem.W.Frag) (mg : Str → Option Value) (p gg gs CR CT : Addr) : Prop where
  div : TD K mg "divisor" sDiv
  fac : TD K mg "factors_of" sFac
  owners : TD K mg "owners" sOwners
  own : TD K mg "owner_of" sOwn
  tak : TD K mg "taken" sTak
  every : TD K mg "every" sEvery
  ahead : TD K mg "ahead" sAhead
  hands : TD K mg "hands_of" sHands
  count : TD K mg "count" sCount
  place : TD K mg "place" sPlace
  share : TD K mg "share" sShare
  iseq : TD K mg "is_equal" sIsEq
  per : TD K mg "period" sPer
  bag : TD K mg "_law_bag" sBag
  pull : TD K mg "_law_pull" sPull
  of : TD K mg "_law_of" sOf
  names : TD K mg "_law_names" sNames
  lown : TD K mg "_law_owners" sLown
  ltree : TD K mg "_law_tree" sLtree
  lends : TD K mg "_law_ends" sLends
  lgcd : TD K mg "_law_gcd" sLgcd
  lwid : TD K mg "_law_width" sLwid
  ltiny : TD K mg "_law_tiny" sLtiny
  ends : ∃ (f : Addr) (fd : FuncData), FnPD K "ends" sEnds [.int 0, .int 1] f fd ∧ mg "ends" = some (.ref f)
  get : ∃ fd : FuncData, FnM K "at" "Run.at" (rI 2) [] gg fd
  set : ∃ fd : FuncData, FnM K "at" "Run.at" (rI 3) [] gs fd
  init : ∃ (f : Addr) (fd : FuncData), FnM K "__init__" "Run.__init__" (rI 1) [("at", .int 0)] f fd ∧ Mk K CR f ∧ SupM K CT CT "__init__" f
  deal : ∃ (f : Addr) (fd : FuncData), FnM K "deal" "Run.deal" (rI 5) [] f fd ∧ Meth K CR "deal" f ∧ SupM K CT CT "deal" f
  dm : ∃ (f : Addr) (fd : FuncData), FnM K "deal_many" "Run.deal_many" (rI 6) [] f fd ∧ Meth K CR "deal_many" f ∧ SupM K CT CT "deal_many" f
  move : TM K CR "move" "Run.move" (rI 4)
  rest : TM K CR "rest" "Run.rest" (rI 8)
  hm : TM K CR "hands" "Run.hands" (rI 9)
  kind : TM K CR "kind" "Run.kind" (rI 10)
  same : TM K CR "same_place" "Run.same_place" (rI 12)
  eq : ∃ (f : Addr) (fd : FuncData), FnM K "__eq__" "Run.__eq__" (rI 13) [] f fd ∧ PySem.W.findIn K (.ref CR) "__eq__" = some (some (.ref f)) ∧ PySem.W.isFn K (.ref f) = true
  ti : ∃ (f : Addr) (fd : FuncData), FnMS P K "__init__" "Tally.__init__" (tI 0) [("at", .int 0)] CT f fd ∧ Mk K CT f
  td : ∃ (f : Addr) (fd : FuncData), FnMS P K "deal" "Tally.deal" (tI 1) [] CT f fd ∧ Meth K CT "deal" f
  tdm : ∃ (f : Addr) (fd : FuncData), FnMS P K "deal_many" "Tally.deal_many" (tI 2) [] CT f fd ∧ Meth K CT "deal_many" f
  tc : TM K CT "counts" "Tally.counts" (tI 3)
  rcR : RC K p gg gs CR
  rcT : RC K p gg gs CT
  isi : IsiC K CR
  mro : PySem.W.mroIn K CR (.type "object") = some true
  ne : PySem.W.findIn K (.ref CR) "__ne__" = some (some (.builtin "object.__ne__"))
  mR : mg "Run" = some (.ref CR)
  mT : mg "Tally" = some (.ref CT)
  gLen : mg "len" = none
  gRange : mg "range" = none
  gTuple : mg "tuple" = none
  gIsi : mg "isinstance" = none
  gStr : mg "str" = none
  gEnum : mg "enumerate" = none
  gAll : mg "all" = none
  gSorted : mg "sorted" = none
  gList : mg "list" = none
  gDict : mg "dict" = none
  gMin : mg "min" = none
section
variable {P : Program} {K : PySem.W.Frag} {mg : Str → Option Value} {p gg gs CR CT : Addr}
theorem lawF_of (T : TextF P K mg p gg gs CR CT) (w : World) (base : Heap) : LawF P w K mg base p gg gs CR CT := by
  obtain ⟨fDiv, fdDiv, FDiv, gDiv⟩ := T.div
  obtain ⟨fFac, fdFac, FFac, gFac⟩ := T.fac
  obtain ⟨fOwners, fdOwners, FOwners, gOwners⟩ := T.owners
  obtain ⟨fOwn, fdOwn, FOwn, gOwn⟩ := T.own
  obtain ⟨fTak, fdTak, FTak, gTak⟩ := T.tak
  obtain ⟨fEvery, fdEvery, FEvery, gEvery⟩ := T.every
  obtain ⟨fAhead, fdAhead, FAhead, gAhead⟩ := T.ahead
  obtain ⟨fHands, fdHands, FHands, gHands⟩ := T.hands
  obtain ⟨fCount, fdCount, FCount, gCount⟩ := T.count
  obtain ⟨fPlace, fdPlace, FPlace, gPlace⟩ := T.place
  obtain ⟨fShare, fdShare, FShare, gShare⟩ := T.share
  obtain ⟨fIseq, fdIseq, FIseq, gIseq⟩ := T.iseq
  obtain ⟨fPer, fdPer, FPer, gPer⟩ := T.per
  obtain ⟨fBag, fdBag, FBag, gBag⟩ := T.bag
  obtain ⟨fPull, fdPull, FPull, gPull⟩ := T.pull
  obtain ⟨fOf, fdOf, FOf, gOf⟩ := T.of
  obtain ⟨fNames, fdNames, FNames, gNames⟩ := T.names
  obtain ⟨fLown, fdLown, FLown, gLown⟩ := T.lown
  obtain ⟨fLtree, fdLtree, FLtree, gLtree⟩ := T.ltree
  obtain ⟨fLends, fdLends, FLends, gLends⟩ := T.lends
  obtain ⟨fLgcd, fdLgcd, FLgcd, gLgcd⟩ := T.lgcd
  obtain ⟨fLwid, fdLwid, FLwid, gLwid⟩ := T.lwid
  obtain ⟨fLtiny, fdLtiny, FLtiny, gLtiny⟩ := T.ltiny
  obtain ⟨fEnds, fdEnds, FEnds, gEnds⟩ := T.ends
  obtain ⟨fdGet, FGet⟩ := T.get
  obtain ⟨fdSet, FSet⟩ := T.set
  obtain ⟨fInit, fdInit, FInit, MInit, SInit⟩ := T.init
  obtain ⟨fDeal, fdDeal, FDeal, MDeal, SDeal⟩ := T.deal
  obtain ⟨fDm, fdDm, FDm, MDm, SDm⟩ := T.dm
  obtain ⟨fMove, fdMove, FMove, MMove⟩ := T.move
  obtain ⟨fRest, fdRest, FRest, MRest⟩ := T.rest
  obtain ⟨fHm, fdHm, FHm, MHm⟩ := T.hm
  obtain ⟨fKind, fdKind, FKind, MKind⟩ := T.kind
  obtain ⟨fSame, fdSame, FSame, MSame⟩ := T.same
  obtain ⟨fEq, fdEq, FEq, hEq, iEq⟩ := T.eq
  obtain ⟨fTi, fdTi, FTi, MTi⟩ := T.ti
  obtain ⟨fTd, fdTd, FTd, MTd⟩ := T.td
  obtain ⟨fTdm, fdTdm, FTdm, MTdm⟩ := T.tdm
  obtain ⟨fTc, fdTc, FTc, MTc⟩ := T.tc
  have gLen := T.gLen
  have gRange := T.gRange
  have gTuple := T.gTuple
  have gIsi := T.gIsi
  have gStr := T.gStr
  have gEnum := T.gEnum
  have gAll := T.gAll
  have gSorted := T.gSorted
  have gList := T.gList
  have gDict := T.gDict
  have gMin := T.gMin
  obtain ⟨gI, bInit⟩ := init_b FInit
  have GInit : FnMd P w K mg base 11 fInit fdInit ["self", "tree", "at"] (spInit K p gg gs) := ok_init FInit FSet FEnds gLen gIsi gStr gEnum gList gEnds
  have GDealR : FnMd P w K mg base 8 fDeal fdDeal ["self"] (spDeal K p gg gs) := (FnOk.md (ok_deal FDeal FSet FOwn gLen gIsi gStr gOwn)).mono (by decide)
  have GDealT : FnMd P w K mg base 8 fTd fdTd ["self"] (spTD K p gg gs CT) := (ok_td FTd SDeal FDeal FSet FOwn gLen gIsi gStr gOwn).mono (by decide)
  have bDeal : L2.Binds K fdDeal ["self"] [] := FDeal.bindsN fun _ _ _ _ _ _ us hl => match us, hl with | [_], _ => rfl
  have bTd : L2.Binds K fdTd ["self"] [] := FTd.bindsN fun _ _ _ _ _ _ _ us hl => match us, hl with | [_], _ => rfl
  have bDm : L2.Binds K fdDm ["self", "count"] [] := FDm.bindsN fun _ _ _ _ _ _ us hl => match us, hl with | [_, _], _ => rfl
  refine ⟨?bag, ?pull, ?lown, ?tiny, ?wid, ?per, ?owners, ?share, ?count, ?place, T.rcR, T.rcT, T.mR, T.mT, ?mkR, ?mkT, ?dmT, ?dmR, ?hands, ?rest, ?counts, ?move, ?get, ?eq, T.mro, T.ne, gRange, gLen, gMin⟩
  case bag => exact ⟨fBag, fdBag, gBag, FBag.kp, FnOk.md (ok_bag FBag gList), FBag.bindsN fun _ _ _ _ _ _ us hl => match us, hl with | [_], _ => rfl⟩
  case pull => exact ⟨fPull, fdPull, gPull, FPull.kp, FnOk.md (ok_pull FPull gLen), FPull.bindsN fun _ _ _ _ _ _ us hl => match us, hl with | [_, _], _ => rfl⟩
  case lown => exact ⟨fLown, fdLown, gLown, FLown.kp, FnOk.md (ok_lown FLown FPull FOf FNames gLen gRange gPull gOf gNames), FLown.bindsN fun _ _ _ _ _ _ us hl => match us, hl with | [_], _ => rfl⟩
  case tiny => exact ⟨fLtiny, fdLtiny, gLtiny, FLtiny.kp, FnOk.md (ok_ltiny FLtiny FLtree FLwid FLends FLgcd FPull FOf gLen gRange gTuple gIsi gLends gLgcd gPull gOf gLtree gLwid), FLtiny.bindsN fun _ _ _ _ _ _ us hl => match us, hl with | [_, _], _ => rfl⟩
  case wid => exact ⟨fLwid, fdLwid, gLwid, FLwid.kp, FnOk.md (ok_lwid FLwid FLends FLgcd gLen gRange gTuple gIsi gLends gLgcd 2), FLwid.bindsN fun _ _ _ _ _ _ us hl => match us, hl with | [_], _ => rfl⟩
  case per => exact ⟨fPer, fdPer, gPer, FPer.kp, ok_per FPer FIseq FFac FEnds FTak FDiv gLen gRange gTuple gIsi gStr gEnum gAll gEnds gTak gDiv gFac gIseq, FPer.bindsN fun _ _ _ _ _ _ us hl => match us, hl with | [_], _ => rfl⟩
  case owners => exact ⟨fOwners, fdOwners, gOwners, FOwners.kp, ok_owners FOwners FEnds gLen gIsi gStr gEnum gSorted gEnds, FOwners.bindsN fun _ _ _ _ _ _ us hl => match us, hl with | [_], _ => rfl⟩
  case share => exact ⟨fShare, fdShare, gShare, FShare.kp, ok_share FShare FEnds FDiv gLen gIsi gStr gEnum gEnds gDiv, FShare.bindsN fun _ _ _ _ _ _ us hl => match us, hl with | [_, _], _ => rfl⟩
  case count => exact ⟨fCount, fdCount, gCount, FCount.kp, ok_count FCount FEnds gLen gIsi gStr gEnum gEnds, FCount.bindsN fun _ _ _ _ _ _ us hl => match us, hl with | [_, _, _], _ => rfl⟩
  case place => exact ⟨fPlace, fdPlace, gPlace, FPlace.kp, ok_place FPlace FCount FEnds gLen gIsi gStr gEnum gEnds gCount, FPlace.bindsN fun _ _ _ _ _ _ us hl => match us, hl with | [_, _, _], _ => rfl⟩
  case mkR => exact ⟨fInit, fdInit, gI, MInit, GInit, bInit⟩
  case mkT => exact ⟨fTi, fdTi, _, MTi, ok_ti FTi SInit FInit FSet FOwners FEnds gLen gIsi gStr gEnum gList gSorted gEnds gOwners, FTi.kbinds 2 ["at"] fun _ _ _ _ _ _ _ us ws h1 h2 => match us, ws, h1, h2 with | [_, _], [_], _, _ => rfl⟩
  case dmT => exact ⟨fTdm, fdTdm, MTdm, ok_tdm FTdm SDm (ok_dm FDm T.rcT MTd GDealT bTd gRange) bDm, FTdm.bindsN fun _ _ _ _ _ _ _ us hl => match us, hl with | [_, _], _ => rfl⟩
  case dmR => exact ⟨fDm, fdDm, MDm, ok_dm FDm T.rcR MDeal GDealR bDeal gRange, bDm⟩
  case hands => exact ⟨fHm, fdHm, MHm, ok_hm FHm FHands gLen gIsi gStr gEnum gList gHands, FHm.bindsN fun _ _ _ _ _ _ us hl => match us, hl with | [_], _ => rfl⟩
  case rest => exact ⟨fRest, fdRest, MRest, FnOk.md (ok_rest FRest FAhead FEvery FTak FDiv gLen gRange gTuple gIsi gStr gDiv gTak gEvery gAhead), FRest.bindsN fun _ _ _ _ _ _ us hl => match us, hl with | [_], _ => rfl⟩
  case counts => exact ⟨fTc, fdTc, MTc, ok_tc FTc gDict, FTc.bindsN fun _ _ _ _ _ _ us hl => match us, hl with | [_], _ => rfl⟩
  case move => exact ⟨fMove, fdMove, MMove, ok_move FMove FSet, FMove.bindsN fun _ _ _ _ _ _ us hl => match us, hl with | [_, _], _ => rfl⟩
  case get => exact ⟨fdGet, ok_get FGet, FGet.bindsN fun _ _ _ _ _ _ us hl => match us, hl with | [_], _ => rfl⟩
  case eq => exact ⟨fEq, fdEq, hEq, iEq, ok_eq FEq FSame FKind T.rcR T.isi MKind MSame gIsi T.mR, FEq.bindsN fun _ _ _ _ _ _ us hl => match us, hl with | [_, _], _ => rfl⟩
theorem ok_law {f : Addr} {fd : FuncData} (T : TextF P K mg p gg gs CR CT) (F : FnP K "law" sLaw f fd) (w : World) (base : Heap) : FnTop P w K mg base 14 f fd ["_law_script"] (spLaw K) := by
  obtain ⟨oc, od, dV, kV, doc, pm, an, cdv, ct, osl, rfl, lk, hcd, _, _⟩ := F.ex
  intro A outer s H args us vs Q hr e0 hg hb r hsp
  refine fn_top (k := 13) lk hcd scLaw (fun vs H Q E h => ?_) (fun A outer s H vs Q hr _ h => ?_) hr e0 hg hb r hsp
  · obtain ⟨a, ns, rfl, _⟩ := h
    rfl
  · obtain ⟨t, ht, q⟩ := law_body (f := f) (cdv := cdv) (A := A) (outer := outer) (s0 := s) (H0 := H) (lawF_of T w base) hr
    exact ⟨t, ht, q Q H vs h⟩
end
end Tn
/-! The head: what stands behind the top. -/
namespace Hd
open PySem PySem.Spec PyProof.Rows L2 Gk Tn
open He (ga ma ba eqO eqO_ok)
abbrev Rn_ : Str := "Run"
abbrev Ta_ : Str := "Tally"
def cR (K : PySem.W.Frag) : Addr := ga K "Run"
def cT (K : PySem.W.Frag) : Addr := ga K "Tally"
def pK (K : PySem.W.Frag) : Addr := ma K (ga K "Run") "at"
def ggK (K : PySem.W.Frag) : Addr := match PySem.W.recIn K (pK K) "property" with
  | some (.ref g :: .ref _ :: _) => g
  | _ => 0
def gsK (K : PySem.W.Frag) : Addr := match PySem.W.recIn K (pK K) "property" with
  | some (.ref _ :: .ref s :: _) => s
  | _ => 0
/-! ### the class facts -/
def conB (K : PySem.W.Frag) (C : Addr) : Bool := match PySem.W.findIn K (.ref C) "MOST_AT" with
  | some (some (.int i t)) => decide (i = most) && eqO (PySem.W.specialIn K (.int i t) "__get__") (some none)
  | _ => false
theorem conB_ok {K : PySem.W.Frag} {C : Addr} (h : conB K C = true) : ∃ u, Con K C "MOST_AT" (.int most) u := by
  unfold conB at h
  split at h
  · rename_i i t e
    obtain ⟨h1, h2⟩ := ba h
    have e1 : i = most := of_decide_eq_true h1
    subst e1
    exact ⟨_, e, ⟨t, rfl⟩, eqO_ok h2, by decide +kernel⟩
  · cases h
def rcB (K : PySem.W.Frag) (C : Addr) : Bool := PySem.W.plainGet K C Str.empty && (PySem.W.hasDictIn K C && (PySem.W.plainOver K C && (eqO (PySem.W.findIn K (.ref C) "__setattr__") (some (some (.builtin "object.__setattr__"))) && (eqO (PySem.W.findIn K (.ref C) "planted") (some none) && (eqO (PySem.W.findIn K (.ref C) "places") (some none) && (eqO (PySem.W.findIn K (.ref C) "spot") (some none) && (eqO (PySem.W.findIn K (.ref C) "got") (some none) && (conB K C && (eqO (PySem.W.findIn K (.ref C) "at") (some (some (.ref (pK K)))) && (eqO (PySem.W.takerIn K C "at") (some (some (.ref (pK K))))))))))))))
def propB (K : PySem.W.Frag) : Bool := eqO (PySem.W.specialIn K (.ref (pK K)) "__get__") (some (some (.builtin "property.__get__"))) && (decide (PySem.W.takesIn K (.ref (pK K)) = some true) && (decide (PySem.W.typeIn K (.ref (pK K)) = some (.type "property")) && ((match PySem.W.recIn K (pK K) "property" with
  | some (.ref _ :: .ref _ :: _) => true
  | _ => false))))
theorem recB_ok {K : PySem.W.Frag} (h : (match PySem.W.recIn K (pK K) "property" with
  | some (.ref _ :: .ref _ :: _) => true
  | _ => false) = true) : ∃ rest, PySem.W.recIn K (pK K) "property" = some (.ref (ggK K) :: .ref (gsK K) :: rest) := by
  unfold ggK gsK
  split at h
  · rename_i g s r e
    exact ⟨r, by rw [e]⟩
  · cases h
theorem rcB_ok {K : PySem.W.Frag} {C : Addr} (h : rcB K C = true) (hp : propB K = true) : RC K (pK K) (ggK K) (gsK K) C := by
  obtain ⟨a1, h⟩ := ba h
  obtain ⟨a2, h⟩ := ba h
  obtain ⟨a3, h⟩ := ba h
  obtain ⟨a4, h⟩ := ba h
  obtain ⟨a5, h⟩ := ba h
  obtain ⟨a6, h⟩ := ba h
  obtain ⟨a7, h⟩ := ba h
  obtain ⟨a8, h⟩ := ba h
  obtain ⟨a9, h⟩ := ba h
  obtain ⟨a10, a11⟩ := ba h
  obtain ⟨b1, hp⟩ := ba hp
  obtain ⟨b2, hp⟩ := ba hp
  obtain ⟨b3, b4⟩ := ba hp
  obtain ⟨rest, hr⟩ := recB_ok b4
  exact ⟨⟨a1, a2, a3, eqO_ok a4⟩, eqO_ok a5, eqO_ok a6, eqO_ok a7, eqO_ok a8, conB_ok a9, ⟨eqO_ok a11, of_decide_eq_true b3, _, _, hr⟩, ⟨eqO_ok a10, eqO_ok b1, of_decide_eq_true b2, _, hr⟩⟩
def supB (K : PySem.W.Frag) (m : Str) : Bool := decide (PySem.W.mroIn K (cT K) (.ref (cT K)) = some true) && (eqO (PySem.W.ks_superIn K (cT K) (cT K) m) (some (some (.ref (ma K (cR K) m)))) && (PySem.W.fnIn K (ma K (cR K) m) && (decide (PySem.W.typeIn K (.ref (ma K (cR K) m)) = some (.type "function")))))
theorem supB_ok {K : PySem.W.Frag} {m : Str} (h : supB K m = true) : SupM K (cT K) (cT K) m (ma K (cR K) m) := by
  obtain ⟨a1, h⟩ := ba h
  obtain ⟨a2, h⟩ := ba h
  obtain ⟨a3, a4⟩ := ba h
  exact ⟨of_decide_eq_true a1, eqO_ok a2, a3, of_decide_eq_true a4⟩
def isiB (K : PySem.W.Frag) (C : Addr) : Bool := eqO (PySem.W.findIn K (.ref C) "__class__") (some (some (.builtin "object.__class__"))) && (eqO (PySem.W.specialIn K (.builtin "object.__class__") "__get__") (some (some (.builtin "getset_descriptor.__get__"))) && (decide (PySem.W.takesIn K (.builtin "object.__class__") = some true) && (decide (PySem.W.mroIn K C (.type "object") = some true) && (decide (PySem.W.kitOne K (.ref C) (.ref C) = some true) && (eqO (PySem.W.findIn K (.ref C) "__ne__") (some (some (.builtin "object.__ne__"))) && (eqO (PySem.W.findIn K (.ref C) "__eq__") (some (some (.ref (ma K C "__eq__")))) && (PySem.W.isFn K (.ref (ma K C "__eq__")))))))))
structure IsiF (K : PySem.W.Frag) (C : Addr) : Prop where
  isi : IsiC K C
  ne : PySem.W.findIn K (.ref C) "__ne__" = some (some (.builtin "object.__ne__"))
  eq : PySem.W.findIn K (.ref C) "__eq__" = some (some (.ref (ma K C "__eq__")))
  fn : PySem.W.isFn K (.ref (ma K C "__eq__")) = true
theorem isiB_ok {K : PySem.W.Frag} {C : Addr} (h : isiB K C = true) : IsiF K C := by
  obtain ⟨a1, h⟩ := ba h
  obtain ⟨a2, h⟩ := ba h
  obtain ⟨a3, h⟩ := ba h
  obtain ⟨a4, h⟩ := ba h
  obtain ⟨a5, h⟩ := ba h
  obtain ⟨a6, h⟩ := ba h
  obtain ⟨a7, a8⟩ := ba h
  exact ⟨⟨eqO_ok a1, eqO_ok a2, of_decide_eq_true a3, of_decide_eq_true a4, of_decide_eq_true a5⟩, eqO_ok a6, eqO_ok a7, a8⟩
/-! ### the defs that say super() -/
def cellB (K : PySem.W.Frag) (D : Addr) (l : List (Str × Addr)) : Bool := match l with
  | [(n, cc)] => decide (n = ("__class__" : Str)) && (match K.lookup cc with
    | some ⟨_, _, .cell (some (.ref E)), _⟩ => decide (E = D)
    | _ => false)
  | _ => false
theorem cellB_ok {K : PySem.W.Frag} {D : Addr} {l : List (Str × Addr)} (h : cellB K D l = true) : ∃ cc cl cld csl, l = [(("__class__" : Str), cc)] ∧ K.lookup cc = some ⟨cl, cld, .cell (some (.ref D)), csl⟩ := by
  unfold cellB at h
  split at h
  · rename_i n cc
    obtain ⟨h1, h2⟩ := ba h
    have e1 : n = ("__class__" : Str) := of_decide_eq_true h1
    split at h2
    · rename_i a b E d e
      have e2 : E = D := of_decide_eq_true h2
      subst e1 e2
      exact ⟨cc, _, _, _, rfl, e⟩
    · cases h2
  · cases h
def fileB (P : Program) (K : PySem.W.Frag) (cd : Value) : Bool := match cd with
  | .ref c => (match K.lookup c with
    | some ⟨_, _, .fields vs, _⟩ => (match (vs[2]? : Option Value) with
      | some (.str file _) => (P.main.file : Str) == file
      | _ => false)
    | _ => false)
  | _ => false
theorem fileB_ok {P : Program} {K : PySem.W.Frag} {cd : Value} (h : fileB P K cd = true) : ∃ cda ccl cdd vs ccs file tf, cd = .ref cda ∧ K.lookup cda = some ⟨ccl, cdd, .fields vs, ccs⟩ ∧ vs[2]? = some (.str file tf) ∧ ((P.main.file : Str) == file) = true := by
  unfold fileB at h
  split at h
  · rename_i c
    split at h
    · rename_i a b vs d e
      split at h
      · rename_i file tf e2
        exact ⟨c, _, _, _, _, _, _, rfl, e, e2, h⟩
      · cases h
    · cases h
  · cases h
structure DefS where
  at_ : PySem.W.Frag → Addr
  name : Str
  qual : Str
  params : Arguments
  body : List Stmt
  scope : Scope
  kwd : List (Str × V) := []
def DefS.val (d : DefS) : He.FnW := some (d.name, d.qual, d.params, .stmts d.body, d.scope, mainGlobals, [], builtinsNs)
def fnC (K : PySem.W.Frag) (a : Addr) : He.FnW := match K.lookup a with
  | some ⟨_, _, .func fd, _⟩ => some (fd.name, fd.qualname, fd.params, fd.body, fd.scope, fd.globals, [], fd.builtins)
  | _ => none
def DefS.ok (P : Program) (K : PySem.W.Frag) (D : Addr) (d : DefS) : Bool := match K.lookup (d.at_ K) with
  | some ⟨_, _, .func fd, _⟩ => PySem.W.codeIn K fd.code d.qual && (He.dflB K fd.defaults [] && (He.kwdB K fd.kwdefaults d.kwd && (cellB K D fd.closure && fileB P K fd.code)))
  | _ => false
structure OutF (P : Program) (K : PySem.W.Frag) (D : Addr) : Prop where
  cls : ∃ cd, PySem.W.clsIn K D = some cd
  sup : PySem.W.nsIn K mainGlobals "super" = some none
  top : (P.main.scope.names.lookup ("super" : Str)).isSome = false
  opq : PySem.W.nsIn K cStatics "thirdparty.any" = some none
theorem DefS.funS {P : Program} {K : PySem.W.Frag} {D : Addr} {d : DefS} {slf : Str} (O : OutF P K D) (hp : ∃ ar, (d.params.posonlyargs ++ d.params.args).head? = some ar ∧ ar.arg = slf) (e : fnC K (d.at_ K) = d.val) (c : d.ok P K D = true) : ∃ fd, FunS P K d.name d.qual d.params d.body d.scope d.kwd slf D (d.at_ K) fd := by
  unfold DefS.ok at c
  unfold fnC at e
  cases q : K.lookup (d.at_ K) with
  | none =>
    rw [q] at c
    cases c
  | some o =>
    obtain ⟨oc, od, dt, osl⟩ := o
    rw [q] at c e
    cases dt with
    | func fd =>
      obtain ⟨n1, n2, n3, n4, n5, n6, n7, n8, n9, n10, n11, n12, n13, n14, n15⟩ := fd
      have e2 : (some (n1, n2, n3, n4, n5, n6, [], n15) : He.FnW) = some (d.name, d.qual, d.params, .stmts d.body, d.scope, mainGlobals, [], builtinsNs) := e
      simp only [Option.some.injEq, Prod.mk.injEq] at e2
      obtain ⟨h1, h2, h3, h4, h5, h6, _, h8⟩ := e2
      subst h1 h2 h3 h4 h5 h6 h8
      have c3 : (PySem.W.codeIn K n13 d.qual && (He.dflB K n8 [] && (He.kwdB K n9 d.kwd && (cellB K D n7 && fileB P K n13)))) = true := c
      obtain ⟨k1, k2⟩ := ba c3
      obtain ⟨k3, k4⟩ := ba k2
      obtain ⟨k5, k6⟩ := ba k4
      obtain ⟨k7, k8⟩ := ba k6
      obtain ⟨cc, cl, cld, csl, rfl, hc⟩ := cellB_ok k7
      obtain ⟨cda, ccl, cdd, vs, ccs, file, tf, rfl, hcd, hv, hf⟩ := fileB_ok k8
      exact ⟨_, ⟨oc, od, n8, n9, n10, n11, n12, cda, n14, cc, osl, cl, cld, csl, rfl, q, k1, He.dflB_ok k3, He.kwdB_ok k5, hc, ccl, cdd, vs, ccs, file, tf, hcd, hv, hf⟩, hp, O.cls, O.sup, O.top, O.opq⟩
    | _ => cases c
/-! ### the text -/
def d_div : He5.DefA := ⟨fun K => ga K "divisor", "divisor", "divisor", defArgs sDiv, defBody sDiv, defScope sDiv, [], []⟩
def d_fac : He5.DefA := ⟨fun K => ga K "factors_of", "factors_of", "factors_of", defArgs sFac, defBody sFac, defScope sFac, [], []⟩
def d_owners : He5.DefA := ⟨fun K => ga K "owners", "owners", "owners", defArgs sOwners, defBody sOwners, defScope sOwners, [], []⟩
def d_own : He5.DefA := ⟨fun K => ga K "owner_of", "owner_of", "owner_of", defArgs sOwn, defBody sOwn, defScope sOwn, [], []⟩
def d_tak : He5.DefA := ⟨fun K => ga K "taken", "taken", "taken", defArgs sTak, defBody sTak, defScope sTak, [], []⟩
def d_every : He5.DefA := ⟨fun K => ga K "every", "every", "every", defArgs sEvery, defBody sEvery, defScope sEvery, [], []⟩
def d_ahead : He5.DefA := ⟨fun K => ga K "ahead", "ahead", "ahead", defArgs sAhead, defBody sAhead, defScope sAhead, [], []⟩
def d_hands : He5.DefA := ⟨fun K => ga K "hands_of", "hands_of", "hands_of", defArgs sHands, defBody sHands, defScope sHands, [], []⟩
def d_count : He5.DefA := ⟨fun K => ga K "count", "count", "count", defArgs sCount, defBody sCount, defScope sCount, [], []⟩
def d_place : He5.DefA := ⟨fun K => ga K "place", "place", "place", defArgs sPlace, defBody sPlace, defScope sPlace, [], []⟩
def d_share : He5.DefA := ⟨fun K => ga K "share", "share", "share", defArgs sShare, defBody sShare, defScope sShare, [], []⟩
def d_iseq : He5.DefA := ⟨fun K => ga K "is_equal", "is_equal", "is_equal", defArgs sIsEq, defBody sIsEq, defScope sIsEq, [], []⟩
def d_per : He5.DefA := ⟨fun K => ga K "period", "period", "period", defArgs sPer, defBody sPer, defScope sPer, [], []⟩
def d_bag : He5.DefA := ⟨fun K => ga K "_law_bag", "_law_bag", "_law_bag", defArgs sBag, defBody sBag, defScope sBag, [], []⟩
def d_pull : He5.DefA := ⟨fun K => ga K "_law_pull", "_law_pull", "_law_pull", defArgs sPull, defBody sPull, defScope sPull, [], []⟩
def d_of : He5.DefA := ⟨fun K => ga K "_law_of", "_law_of", "_law_of", defArgs sOf, defBody sOf, defScope sOf, [], []⟩
def d_names : He5.DefA := ⟨fun K => ga K "_law_names", "_law_names", "_law_names", defArgs sNames, defBody sNames, defScope sNames, [], []⟩
def d_lown : He5.DefA := ⟨fun K => ga K "_law_owners", "_law_owners", "_law_owners", defArgs sLown, defBody sLown, defScope sLown, [], []⟩
def d_ltree : He5.DefA := ⟨fun K => ga K "_law_tree", "_law_tree", "_law_tree", defArgs sLtree, defBody sLtree, defScope sLtree, [], []⟩
def d_lends : He5.DefA := ⟨fun K => ga K "_law_ends", "_law_ends", "_law_ends", defArgs sLends, defBody sLends, defScope sLends, [], []⟩
def d_lgcd : He5.DefA := ⟨fun K => ga K "_law_gcd", "_law_gcd", "_law_gcd", defArgs sLgcd, defBody sLgcd, defScope sLgcd, [], []⟩
def d_lwid : He5.DefA := ⟨fun K => ga K "_law_width", "_law_width", "_law_width", defArgs sLwid, defBody sLwid, defScope sLwid, [], []⟩
def d_ltiny : He5.DefA := ⟨fun K => ga K "_law_tiny", "_law_tiny", "_law_tiny", defArgs sLtiny, defBody sLtiny, defScope sLtiny, [], []⟩
def d_ends : He5.DefA := ⟨fun K => ga K "ends", "ends", "ends", defArgs sEnds, defBody sEnds, defScope sEnds, [.int 0, .int 1], []⟩
def d_law : He5.DefA := ⟨fun K => ga K "law", "law", "law", defArgs sLaw, defBody sLaw, defScope sLaw, [], []⟩
def m_init : He5.DefA := ⟨fun K => ma K (cR K) "__init__", "__init__", "Run.__init__", defArgs (rI 1), defBody (rI 1), defScope (rI 1), [], [("at", .int 0)]⟩
def m_deal : He5.DefA := ⟨fun K => ma K (cR K) "deal", "deal", "Run.deal", defArgs (rI 5), defBody (rI 5), defScope (rI 5), [], []⟩
def m_dm : He5.DefA := ⟨fun K => ma K (cR K) "deal_many", "deal_many", "Run.deal_many", defArgs (rI 6), defBody (rI 6), defScope (rI 6), [], []⟩
def m_move : He5.DefA := ⟨fun K => ma K (cR K) "move", "move", "Run.move", defArgs (rI 4), defBody (rI 4), defScope (rI 4), [], []⟩
def m_rest : He5.DefA := ⟨fun K => ma K (cR K) "rest", "rest", "Run.rest", defArgs (rI 8), defBody (rI 8), defScope (rI 8), [], []⟩
def m_hm : He5.DefA := ⟨fun K => ma K (cR K) "hands", "hands", "Run.hands", defArgs (rI 9), defBody (rI 9), defScope (rI 9), [], []⟩
def m_kind : He5.DefA := ⟨fun K => ma K (cR K) "kind", "kind", "Run.kind", defArgs (rI 10), defBody (rI 10), defScope (rI 10), [], []⟩
def m_same : He5.DefA := ⟨fun K => ma K (cR K) "same_place", "same_place", "Run.same_place", defArgs (rI 12), defBody (rI 12), defScope (rI 12), [], []⟩
def m_eq : He5.DefA := ⟨fun K => ma K (cR K) "__eq__", "__eq__", "Run.__eq__", defArgs (rI 13), defBody (rI 13), defScope (rI 13), [], []⟩
def m_get : He5.DefA := ⟨ggK, "at", "Run.at", defArgs (rI 2), defBody (rI 2), defScope (rI 2), [], []⟩
def m_set : He5.DefA := ⟨gsK, "at", "Run.at", defArgs (rI 3), defBody (rI 3), defScope (rI 3), [], []⟩
def m_tc : He5.DefA := ⟨fun K => ma K (cT K) "counts", "counts", "Tally.counts", defArgs (tI 3), defBody (tI 3), defScope (tI 3), [], []⟩
def fn : List He5.DefA := [d_div, d_fac, d_owners, d_own, d_tak, d_every, d_ahead, d_hands, d_count, d_place, d_share, d_iseq, d_per, d_bag, d_pull, d_of, d_names, d_lown, d_ltree, d_lends, d_lgcd, d_lwid, d_ltiny, d_ends, d_law, m_init, m_deal, m_dm, m_move, m_rest, m_hm, m_kind, m_same, m_eq, m_get, m_set, m_tc]
def s_ti : DefS := ⟨fun K => ma K (cT K) "__init__", "__init__", "Tally.__init__", defArgs (tI 0), defBody (tI 0), defScope (tI 0), [("at", .int 0)]⟩
def s_td : DefS := ⟨fun K => ma K (cT K) "deal", "deal", "Tally.deal", defArgs (tI 1), defBody (tI 1), defScope (tI 1), []⟩
def s_tdm : DefS := ⟨fun K => ma K (cT K) "deal_many", "deal_many", "Tally.deal_many", defArgs (tI 2), defBody (tI 2), defScope (tI 2), []⟩
def sn : List DefS := [s_ti, s_td, s_tdm]
def fa : List He.Fa := [.glo "divisor", .glo "factors_of", .glo "owners", .glo "owner_of", .glo "taken", .glo "every", .glo "ahead", .glo "hands_of", .glo "count", .glo "place", .glo "share", .glo "is_equal", .glo "period", .glo "_law_bag", .glo "_law_pull", .glo "_law_of", .glo "_law_names", .glo "_law_owners", .glo "_law_tree", .glo "_law_ends", .glo "_law_gcd", .glo "_law_width", .glo "_law_tiny", .glo "ends", .glo "law", .glo "Run", .glo "Tally", .free "len", .free "range", .free "tuple", .free "isinstance", .free "str", .free "enumerate", .free "all", .free "sorted", .free "list", .free "dict", .free "min", .free "super", .meth "Run" "deal", .meth "Run" "deal_many", .meth "Run" "move", .meth "Run" "rest", .meth "Run" "hands", .meth "Run" "kind", .meth "Run" "same_place", .meth "Tally" "deal", .meth "Tally" "deal_many", .meth "Tally" "counts", .mkr "Run", .mkr "Tally"]
abbrev PR : Program := PySem.Challenge.pw_turndeal_k78_whole_tallies_over_whole_ro
def exB (K : PySem.W.Frag) : Bool := rcB K (cR K) && (rcB K (cT K) && (propB K && (isiB K (cR K) && (supB K "__init__" && (supB K "deal" && (supB K "deal_many" && ((PySem.W.clsIn K (cT K)).isSome && (eqO (PySem.W.nsIn K cStatics "thirdparty.any") (some none) && ((sn.all fun d => d.ok PR K (cT K)))))))))))
abbrev Al : Type := He.AlD × (Bool × List He.FnW)
def obs (K : PySem.W.Frag) : Al := (He5.obsA fa fn K, (exB K, sn.map fun d => fnC K (d.at_ K)))
def val : Al := (He5.valA fn, (true, sn.map DefS.val))
def obsG (n : Nat) (g : Addr → Option Obj) : Al := obs (He.frG g (He5.asA g n))
def hk : PySem.W.Hook where
  α := Al
  obs := fun s => obsG 5 s.heap.get?
  val := fun _ => val
  says := fun _ h => ∃ K : PySem.W.Frag, K.In h ∧ obs K = val
  of := fun _ _ e => ⟨_, He.frG_in, e⟩
  keeps := fun _ _ _ ⟨K, hK, c⟩ k => ⟨K, PySem.W.Frag.In.keeps hK k, c⟩
theorem obsG_eq {n : Nat} {g : Addr → Option Obj} {s : Shared} (h : ∀ a, g a = s.heap.get? a) : obsG n g = obsG n s.heap.get? := by
  have e : g = s.heap.get? := funext h
  rw [e]
def ob (s : PySem.W.SharedT) : Al := obsG 5 (HandSHeadRun.getT s)
theorem ob_eq (s : PySem.W.SharedT) : ob s = hk.obs s.abs := obsG_eq (HandSHeadRun.getT_eq s)
abbrev R : PySem.W.OpenRow := PySem.W.OpenLaw.row PySem.Challenge.rw_turndeal_k78_whole_tallies_over_whole_ro
abbrev loose : List PySem.Str := ["_wall", "TurnError", "TurnMissing", "BadClass", "OutOfRange", "NoItem", "divisor", "factors_of", "ends", "owners", "owner_of", "taken", "every", "ahead", "hands_of", "Run", "Tally", "count", "place", "share", "is_equal", "period", "_law_bag", "_law_pull", "_law_of", "_law_names", "_law_owners", "_law_tree", "_law_ends", "_law_gcd", "_law_width", "_law_tiny"]
end Hd
/-! The run of the top. -/
namespace Hd
open PySem PySem.Spec PyProof.Rows L2 Gk Tn
open He (ga ma ba eqO eqO_ok)
theorem run (w : World) : HandSHeadRun.RunEq R (PySem.W.view R.prog [40]) hk ob 20000 loose w := by
  intro os
  kernel_rfl
end Hd
/-! The facts. -/
namespace Hd
open PySem PySem.Spec PyProof.Rows L2 Gk Tn
open He (ga ma ba eqO eqO_ok)
section
variable {K : PySem.W.Frag} {h : Heap} {mg : Str → Option Value}
theorem fact (c : obs K = val) (i : Nat) {f : He.Fa} (h : fa[i]? = some f) : f.ok K = true := He5.SaysA.fact (show He5.SaysA fa fn K from congrArg (fun z : Al => z.1) c) i h
theorem def_ (c : obs K = val) (i : Nat) {d : He5.DefA} (h : fn[i]? = some d) : ∃ fd, FunD K d.name d.qual d.params d.body d.scope (d.dvs K) (d.kws K) (d.at_ K) fd := He5.SaysA.def_ (show He5.SaysA fa fn K from congrArg (fun z : Al => z.1) c) i h
structure ExF (K : PySem.W.Frag) : Prop where
  rR : rcB K (cR K) = true
  rT : rcB K (cT K) = true
  p : propB K = true
  isi : isiB K (cR K) = true
  s1 : supB K "__init__" = true
  s2 : supB K "deal" = true
  s3 : supB K "deal_many" = true
  cls : ∃ cd, PySem.W.clsIn K (cT K) = some cd
  opq : PySem.W.nsIn K cStatics "thirdparty.any" = some none
  sn : ∀ d ∈ sn, d.ok PR K (cT K) = true
theorem exF (c : obs K = val) : ExF K := by
  have h : exB K = true := congrArg (fun z : Al => z.2.1) c
  obtain ⟨a1, h⟩ := ba h
  obtain ⟨a2, h⟩ := ba h
  obtain ⟨a3, h⟩ := ba h
  obtain ⟨a4, h⟩ := ba h
  obtain ⟨a5, h⟩ := ba h
  obtain ⟨a6, h⟩ := ba h
  obtain ⟨a7, h⟩ := ba h
  obtain ⟨a8, h⟩ := ba h
  obtain ⟨a9, a10⟩ := ba h
  exact ⟨a1, a2, a3, a4, a5, a6, a7, Option.isSome_iff_exists.mp a8, eqO_ok a9, fun d hd => List.all_eq_true.mp a10 d hd⟩
theorem sdef (c : obs K = val) (i : Nat) {d : DefS} (h : sn[i]? = some d) : fnC K (d.at_ K) = d.val := by
  have e : sn.map (fun d => fnC K (d.at_ K)) = sn.map DefS.val := congrArg (fun z : Al => z.2.2) c
  have e2 : (sn.map fun d => fnC K (d.at_ K))[i]? = (sn.map DefS.val)[i]? := by rw [e]
  rw [List.getElem?_map, List.getElem?_map, h] at e2
  exact Option.some.inj e2
theorem outF (c : obs K = val) : OutF PR K (cT K) := ⟨(exF c).cls, eqO_ok (fact c 38 (f := .free "super") rfl), by decide +kernel, (exF c).opq⟩
theorem textF (X : K.In h) (G : h.Ns mainGlobals mg) (c : obs K = val) : TextF PR K mg (pK K) (ggK K) (gsK K) (cR K) (cT K) := by
  have E := exF c
  have O := outF c
  have hI := isiB_ok E.isi
  obtain ⟨fdd_div, Fd_div⟩ := def_ c 0 (d := d_div) rfl
  obtain ⟨fdd_fac, Fd_fac⟩ := def_ c 1 (d := d_fac) rfl
  obtain ⟨fdd_owners, Fd_owners⟩ := def_ c 2 (d := d_owners) rfl
  obtain ⟨fdd_own, Fd_own⟩ := def_ c 3 (d := d_own) rfl
  obtain ⟨fdd_tak, Fd_tak⟩ := def_ c 4 (d := d_tak) rfl
  obtain ⟨fdd_every, Fd_every⟩ := def_ c 5 (d := d_every) rfl
  obtain ⟨fdd_ahead, Fd_ahead⟩ := def_ c 6 (d := d_ahead) rfl
  obtain ⟨fdd_hands, Fd_hands⟩ := def_ c 7 (d := d_hands) rfl
  obtain ⟨fdd_count, Fd_count⟩ := def_ c 8 (d := d_count) rfl
  obtain ⟨fdd_place, Fd_place⟩ := def_ c 9 (d := d_place) rfl
  obtain ⟨fdd_share, Fd_share⟩ := def_ c 10 (d := d_share) rfl
  obtain ⟨fdd_iseq, Fd_iseq⟩ := def_ c 11 (d := d_iseq) rfl
  obtain ⟨fdd_per, Fd_per⟩ := def_ c 12 (d := d_per) rfl
  obtain ⟨fdd_bag, Fd_bag⟩ := def_ c 13 (d := d_bag) rfl
  obtain ⟨fdd_pull, Fd_pull⟩ := def_ c 14 (d := d_pull) rfl
  obtain ⟨fdd_of, Fd_of⟩ := def_ c 15 (d := d_of) rfl
  obtain ⟨fdd_names, Fd_names⟩ := def_ c 16 (d := d_names) rfl
  obtain ⟨fdd_lown, Fd_lown⟩ := def_ c 17 (d := d_lown) rfl
  obtain ⟨fdd_ltree, Fd_ltree⟩ := def_ c 18 (d := d_ltree) rfl
  obtain ⟨fdd_lends, Fd_lends⟩ := def_ c 19 (d := d_lends) rfl
  obtain ⟨fdd_lgcd, Fd_lgcd⟩ := def_ c 20 (d := d_lgcd) rfl
  obtain ⟨fdd_lwid, Fd_lwid⟩ := def_ c 21 (d := d_lwid) rfl
  obtain ⟨fdd_ltiny, Fd_ltiny⟩ := def_ c 22 (d := d_ltiny) rfl
  obtain ⟨fdd_ends, Fd_ends⟩ := def_ c 23 (d := d_ends) rfl
  obtain ⟨fdm_init, Fm_init⟩ := def_ c 25 (d := m_init) rfl
  obtain ⟨fdm_deal, Fm_deal⟩ := def_ c 26 (d := m_deal) rfl
  obtain ⟨fdm_dm, Fm_dm⟩ := def_ c 27 (d := m_dm) rfl
  obtain ⟨fdm_move, Fm_move⟩ := def_ c 28 (d := m_move) rfl
  obtain ⟨fdm_rest, Fm_rest⟩ := def_ c 29 (d := m_rest) rfl
  obtain ⟨fdm_hm, Fm_hm⟩ := def_ c 30 (d := m_hm) rfl
  obtain ⟨fdm_kind, Fm_kind⟩ := def_ c 31 (d := m_kind) rfl
  obtain ⟨fdm_same, Fm_same⟩ := def_ c 32 (d := m_same) rfl
  obtain ⟨fdm_eq, Fm_eq⟩ := def_ c 33 (d := m_eq) rfl
  obtain ⟨fdm_get, Fm_get⟩ := def_ c 34 (d := m_get) rfl
  obtain ⟨fdm_set, Fm_set⟩ := def_ c 35 (d := m_set) rfl
  obtain ⟨fdm_tc, Fm_tc⟩ := def_ c 36 (d := m_tc) rfl
  obtain ⟨fdti, Fti⟩ := DefS.funS (slf := "self") O ⟨_, rfl, rfl⟩ (sdef c 0 (d := s_ti) rfl) (E.sn s_ti (by simp [sn]))
  obtain ⟨fdtd, Ftd⟩ := DefS.funS (slf := "self") O ⟨_, rfl, rfl⟩ (sdef c 1 (d := s_td) rfl) (E.sn s_td (by simp [sn]))
  obtain ⟨fdtdm, Ftdm⟩ := DefS.funS (slf := "self") O ⟨_, rfl, rfl⟩ (sdef c 2 (d := s_tdm) rfl) (E.sn s_tdm (by simp [sn]))
  exact {
    div := ⟨_, _, Fd_div, He.glo_ok X G (fact c 0 (f := .glo "divisor") rfl)⟩,
    fac := ⟨_, _, Fd_fac, He.glo_ok X G (fact c 1 (f := .glo "factors_of") rfl)⟩,
    owners := ⟨_, _, Fd_owners, He.glo_ok X G (fact c 2 (f := .glo "owners") rfl)⟩,
    own := ⟨_, _, Fd_own, He.glo_ok X G (fact c 3 (f := .glo "owner_of") rfl)⟩,
    tak := ⟨_, _, Fd_tak, He.glo_ok X G (fact c 4 (f := .glo "taken") rfl)⟩,
    every := ⟨_, _, Fd_every, He.glo_ok X G (fact c 5 (f := .glo "every") rfl)⟩,
    ahead := ⟨_, _, Fd_ahead, He.glo_ok X G (fact c 6 (f := .glo "ahead") rfl)⟩,
    hands := ⟨_, _, Fd_hands, He.glo_ok X G (fact c 7 (f := .glo "hands_of") rfl)⟩,
    count := ⟨_, _, Fd_count, He.glo_ok X G (fact c 8 (f := .glo "count") rfl)⟩,
    place := ⟨_, _, Fd_place, He.glo_ok X G (fact c 9 (f := .glo "place") rfl)⟩,
    share := ⟨_, _, Fd_share, He.glo_ok X G (fact c 10 (f := .glo "share") rfl)⟩,
    iseq := ⟨_, _, Fd_iseq, He.glo_ok X G (fact c 11 (f := .glo "is_equal") rfl)⟩,
    per := ⟨_, _, Fd_per, He.glo_ok X G (fact c 12 (f := .glo "period") rfl)⟩,
    bag := ⟨_, _, Fd_bag, He.glo_ok X G (fact c 13 (f := .glo "_law_bag") rfl)⟩,
    pull := ⟨_, _, Fd_pull, He.glo_ok X G (fact c 14 (f := .glo "_law_pull") rfl)⟩,
    of := ⟨_, _, Fd_of, He.glo_ok X G (fact c 15 (f := .glo "_law_of") rfl)⟩,
    names := ⟨_, _, Fd_names, He.glo_ok X G (fact c 16 (f := .glo "_law_names") rfl)⟩,
    lown := ⟨_, _, Fd_lown, He.glo_ok X G (fact c 17 (f := .glo "_law_owners") rfl)⟩,
    ltree := ⟨_, _, Fd_ltree, He.glo_ok X G (fact c 18 (f := .glo "_law_tree") rfl)⟩,
    lends := ⟨_, _, Fd_lends, He.glo_ok X G (fact c 19 (f := .glo "_law_ends") rfl)⟩,
    lgcd := ⟨_, _, Fd_lgcd, He.glo_ok X G (fact c 20 (f := .glo "_law_gcd") rfl)⟩,
    lwid := ⟨_, _, Fd_lwid, He.glo_ok X G (fact c 21 (f := .glo "_law_width") rfl)⟩,
    ltiny := ⟨_, _, Fd_ltiny, He.glo_ok X G (fact c 22 (f := .glo "_law_tiny") rfl)⟩,
    ends := ⟨_, _, Fd_ends, He.glo_ok X G (fact c 23 (f := .glo "ends") rfl)⟩,
    get := ⟨_, Fm_get⟩,
    set := ⟨_, Fm_set⟩,
    init := ⟨_, _, Fm_init, He.mkr_ok (fact c 49 (f := .mkr "Run") rfl), supB_ok E.s1⟩,
    deal := ⟨_, _, Fm_deal, He.meth_ok (fact c 39 (f := .meth "Run" "deal") rfl), supB_ok E.s2⟩,
    dm := ⟨_, _, Fm_dm, He.meth_ok (fact c 40 (f := .meth "Run" "deal_many") rfl), supB_ok E.s3⟩,
    move := ⟨_, _, Fm_move, He.meth_ok (fact c 41 (f := .meth "Run" "move") rfl)⟩,
    rest := ⟨_, _, Fm_rest, He.meth_ok (fact c 42 (f := .meth "Run" "rest") rfl)⟩,
    hm := ⟨_, _, Fm_hm, He.meth_ok (fact c 43 (f := .meth "Run" "hands") rfl)⟩,
    kind := ⟨_, _, Fm_kind, He.meth_ok (fact c 44 (f := .meth "Run" "kind") rfl)⟩,
    same := ⟨_, _, Fm_same, He.meth_ok (fact c 45 (f := .meth "Run" "same_place") rfl)⟩,
    eq := ⟨_, _, Fm_eq, hI.eq, hI.fn⟩,
    ti := ⟨_, _, Fti, He.mkr_ok (fact c 50 (f := .mkr "Tally") rfl)⟩,
    td := ⟨_, _, Ftd, He.meth_ok (fact c 46 (f := .meth "Tally" "deal") rfl)⟩,
    tdm := ⟨_, _, Ftdm, He.meth_ok (fact c 47 (f := .meth "Tally" "deal_many") rfl)⟩,
    tc := ⟨_, _, Fm_tc, He.meth_ok (fact c 48 (f := .meth "Tally" "counts") rfl)⟩,
    rcR := rcB_ok E.rR E.p,
    rcT := rcB_ok E.rT E.p,
    isi := hI.isi,
    mro := hI.isi.hm,
    ne := hI.ne,
    mR := He.glo_ok X G (fact c 25 (f := .glo "Run") rfl),
    mT := He.glo_ok X G (fact c 26 (f := .glo "Tally") rfl),
    gLen := He.free_ok X G (fact c 27 (f := .free "len") rfl),
    gRange := He.free_ok X G (fact c 28 (f := .free "range") rfl),
    gTuple := He.free_ok X G (fact c 29 (f := .free "tuple") rfl),
    gIsi := He.free_ok X G (fact c 30 (f := .free "isinstance") rfl),
    gStr := He.free_ok X G (fact c 31 (f := .free "str") rfl),
    gEnum := He.free_ok X G (fact c 32 (f := .free "enumerate") rfl),
    gAll := He.free_ok X G (fact c 33 (f := .free "all") rfl),
    gSorted := He.free_ok X G (fact c 34 (f := .free "sorted") rfl),
    gList := He.free_ok X G (fact c 35 (f := .free "list") rfl),
    gDict := He.free_ok X G (fact c 36 (f := .free "dict") rfl),
    gMin := He.free_ok X G (fact c 37 (f := .free "min") rfl) }
theorem facts {f : Addr} (X : K.In h) (G : h.Ns mainGlobals mg) (hfa : mg ("law" : Str) = some (.ref f)) (w : World) (c : obs K = val) :
    ∃ fd : FuncData, (∀ (s : Shared) (v : Value), BindsTo s fd ⟨[v], []⟩ [("_law_script", v)]) ∧ ∀ base : Heap, K.In base → base.Ns mainGlobals mg → FnTop PR w K mg base 14 f fd ["_law_script"] (spLaw K) := by
  obtain ⟨fd, F⟩ := def_ c 24 (d := d_law) rfl
  have e := hfa.symm.trans (He.glo_ok X G (fact c 24 (f := .glo "law") rfl))
  cases e
  have b := FunD.bindsA (ps := ["_law_script"]) F fun _ _ _ _ _ _ us hl => match us, hl with | [_], _ => rfl
  have T := textF X G c
  exact ⟨fd, fun s v => b s [v] rfl, fun base _ _ => ok_law T F w base⟩
end
end Hd
open PySem PySem.W PySem.Calls PyProof.Rows
theorem PySem.Challenge.cw_turndeal_k78_whole_tallies_over_whole_ro_holds : PySem.Challenge.rw_turndeal_k78_whole_tallies_over_whole_ro.Holds := by
  w_on; o_law
  refine Gk.head1 (r := OpenLaw.row PySem.Challenge.rw_turndeal_k78_whole_tallies_over_whole_ro) (q := view (OpenLaw.row PySem.Challenge.rw_turndeal_k78_whole_tallies_over_whole_ro).prog [40]) (H := Hd.hk) (ob := Hd.ob) (M := 20000) (loose := Hd.loose) (d := HandSHeadRun.topDef (OpenLaw.row PySem.Challenge.rw_turndeal_k78_whole_tallies_over_whole_ro).prog 40) (kwd := []) Hd.ob_eq
    (by kernel_rfl) (fun s => by kernel_rfl) Hd.run (by kernel_rfl) (by kernel_rfl) (by kernel_rfl) (by rfl) (by first | assumption | decide +kernel) (by decide +kernel) ⟨rfl, rfl, rfl, rfl, rfl, by decide +kernel⟩ ?hw ?hc
  case hw => w_witness2
  case hc =>
    refine Gk.walk1_ofE (l := PySem.Challenge.rw_turndeal_k78_whole_tallies_over_whole_ro) (n := 63) (k := 14) (x := "_law_script") rfl (by decide) (by kernel_rfl) ⟨rfl, by decide, by decide⟩ ?F
    intro w mg fa h Y G hmg0
    obtain ⟨K, KX, c⟩ := Y
    have hmg : mg ("law" : PySem.Str) = some (.ref fa) := by
      have e : (HandSHeadRun.topDef (OpenLaw.row PySem.Challenge.rw_turndeal_k78_whole_tallies_over_whole_ro).prog 40).name = ("law" : PySem.Str) := by kernel_rfl
      rw [← e]
      exact hmg0
    obtain ⟨fd, hb, hF⟩ := Hd.facts KX G hmg w c
    exact ⟨K, fd, Tn.spLaw K, KX, hb, fun H a ns hl _ hS => ⟨a, ns, rfl, hS, fun _ => rfl⟩, hF⟩
