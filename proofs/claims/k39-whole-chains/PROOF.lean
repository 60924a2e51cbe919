import PyProof.Rows.All
import Wide.All
import OpenK.AllK
import Wide.FinOn
import HandS.ForMost
import PyProof.GenRules
import PyProof.GenQ
import HandS.Defaults
import HandS.IsInst
import HandS.Ends
import HandS.GenList
import PyProof.ZipIter
import HandS.Exc
import KE.KSuper
import KE.KExcSuper
import HandS.Codes
import HandS.Flow
import HandS.TryOnly
import HandS.Walk
import HandS.Iter
import PyProof.EnumMake
import KE.GoesMore
import HandS.CallLocal
import HandS.SetKeys
import HandS.MakeKwOnly
import HandS.Property
import HandS.RaiseOp
import HandS.Zip0
import KE.KItemsList
import HandS.Deep
import HandS.Strs
import HandS.Zip
import HandS.Star
import HandS.Lambda
import HandS.ExcIs
import HandS.ExcField
import PyProof.ReprRoads
import HandS.Dict
import PyProof.Rows.RegFStrParts
import PyProof.ReprLen
import KE.KStateDown
import HandS.Head0
import HandS.Head1
import HandS.Head2
import HandS.HeadHook1
import HandS.HeadHook2
import HandS.HeadHook3
import HandS.HeadHook4
import HandS.HeadNt
import HandS.EndBits
import HandS.EndTab
import PySem.Challenge.RW_bookpack_k39_whole_chains
set_option Elab.async false
set_option linter.all false
set_option maxRecDepth 100000
/-! Kt -/
/-! the text by places -/
namespace K39
open PySem PySem.Spec PyProof.Rows L2
abbrev pw : Program := PySem.Challenge.pw_bookpack_k39_whole_chains
def top (i : Nat) : Stmt := pw.main.body.getD i (.Pass ⟨0, 0, 0, 0⟩)
abbrev sNoItemInit : Stmt := inClass (top 9) 0
abbrev sIsWhole : Stmt := top 22
abbrev sIsText : Stmt := top 23
abbrev sIsId : Stmt := top 24
abbrev sFirstBad : Stmt := top 30
abbrev sIsTupleOf : Stmt := top 38
abbrev sIsTextOf : Stmt := top 39
abbrev sIsField : Stmt := top 40
abbrev sIsHead : Stmt := top 41
abbrev sIsContent : Stmt := top 42
abbrev sIsItem : Stmt := top 43
abbrev sIsSlot : Stmt := top 44
abbrev sIsEntry : Stmt := top 45
abbrev sNeedPart : Stmt := top 46
abbrev sFirstItems : Stmt := top 47
abbrev sBookInit : Stmt := inClass (top 48) 0
abbrev sBookPlain : Stmt := inClass (top 48) 1
abbrev sBookGet : Stmt := inClass (top 48) 2
abbrev sBookHas : Stmt := inClass (top 48) 3
abbrev sChain : Stmt := top 49
abbrev sReadable : Stmt := top 50
abbrev sBegin : Stmt := top 52
abbrev sMixed : Stmt := top 53
abbrev sNext : Stmt := top 54
abbrev sIds : Stmt := top 55
abbrev sFault : Stmt := top 56
abbrev sTold : Stmt := top 57
abbrev sFirst : Stmt := top 58
abbrev sItems : Stmt := top 59
abbrev sNextId : Stmt := top 60
abbrev sIsChain : Stmt := top 61
abbrev sBegun : Stmt := top 62
abbrev sShown : Stmt := top 63
abbrev sRight : Stmt := top 64
abbrev sNone : Stmt := top 65
abbrev sLaw : Stmt := top 66
end K39
/-! Fr -/
set_option maxHeartbeats 2000000
/-! a run whose proof knows nothing of the sleeping generators leaves them asleep -/
namespace K39F
open PySem
open Sem (wp)

def dead : Resume → Sem PySem.Fin := fun _ => .unsupported ""
abbrev Wk : Type := Nat → Option (Resume → Sem PySem.Fin)
def wakeUp (o : Option (Resume → Sem PySem.Fin)) (st : GenState) : GenState := match o, st with
  | some k, .suspended _ l c p fs cl => .suspended k l c p fs cl
  | _, st => st
def ov (R : Wk) (G : Array GenState) : Array GenState := G.mapIdx fun i st => wakeUp (R i) st
def lift (R : Wk) (s : Shared) : Shared := { s with gens := ov R s.gens }
structure Gd (R : Wk) (G : Array GenState) : Prop where
  poison : ∀ i k, R i = some k → ∃ l c p fs cl, G[i]? = some (.suspended dead l c p fs cl)
  flat : ∀ i k l c p fs cl, G[i]? = some (.suspended k l c p fs cl) → R i = none → splitAtGen fs = none
def Kp (R : Wk) (G G' : Array GenState) : Prop := ∀ i k, R i = some k → G'[i]? = G[i]?
def EndFlat : End → Prop
  | .susp _ _ _ _ _ _ fs => splitAtGen fs = none
  | .ret _ => True

theorem Kp.refl {R : Wk} {G : Array GenState} : Kp R G G := fun _ _ _ => rfl
theorem Kp.trans {R : Wk} {G G1 G2 : Array GenState} (a : Kp R G G1) (b : Kp R G1 G2) : Kp R G G2 := fun i k h => (b i k h).trans (a i k h)
theorem wakeUp_none (st : GenState) : wakeUp none st = st := rfl
theorem wakeUp_seen (o : Option (Resume → Sem PySem.Fin)) (st : GenState) : (wakeUp o st).seen = st.seen := by
  cases o <;> cases st <;> rfl
theorem wakeUp_bare (o : Option (Resume → Sem PySem.Fin)) (st : GenState) : (wakeUp o st).bare = st.bare := by
  cases o <;> cases st <;> rfl
theorem ov_size (R : Wk) (G : Array GenState) : (ov R G).size = G.size := by simp [ov]
theorem ov_get (R : Wk) (G : Array GenState) (i : Nat) : (ov R G)[i]? = G[i]?.map (wakeUp (R i)) := by
  simp [ov]
theorem ov_push (R : Wk) (G : Array GenState) (c : Code) : ov R (G.push (.fresh c)) = (ov R G).push (.fresh c) := by
  have e : wakeUp (R G.size) (.fresh c) = .fresh c := by cases R G.size <;> rfl
  simp [ov, e]
theorem ov_set (R : Wk) (G : Array GenState) (g : Nat) (x : GenState) (h : R g = none) : ov R (G.setIfInBounds g x) = (ov R G).setIfInBounds g x := by
  apply Array.ext_getElem?
  intro i
  rw [ov_get]
  by_cases e : i = g
  · subst e
    by_cases hi : i < G.size
    · rw [Array.getElem?_setIfInBounds_self_of_lt hi, Array.getElem?_setIfInBounds_self_of_lt (by rw [ov_size]; exact hi), h] <;> rfl
    · have e1 : (G.setIfInBounds i x)[i]? = none := by simp; omega
      have e2 : ((ov R G).setIfInBounds i x)[i]? = none := by simp [ov_size]; omega
      rw [e1, e2] <;> rfl
  · rw [Array.getElem?_setIfInBounds_ne (Ne.symm e), Array.getElem?_setIfInBounds_ne (Ne.symm e), ov_get]
theorem lift_set (R : Wk) (s : Shared) (g : Nat) (x : GenState) (h : R g = none) : lift R (s.setGen g x) = (lift R s).setGen g x := by
  show ({ s with gens := ov R (s.gens.setIfInBounds g x) } : Shared) = { s with gens := (ov R s.gens).setIfInBounds g x }
  rw [ov_set R _ g x h]
theorem lift_push (R : Wk) (s : Shared) (c : Code) : lift R { s with gens := s.gens.push (.fresh c) } = { lift R s with gens := (lift R s).gens.push (.fresh c) } := by
  show ({ s with gens := ov R (s.gens.push (.fresh c)) } : Shared) = { s with gens := (ov R s.gens).push (.fresh c) }
  rw [ov_push]
theorem lift_gens (R : Wk) (s : Shared) (i : Nat) : (lift R s).gens[i]? = s.gens[i]?.map (wakeUp (R i)) := ov_get R s.gens i

section
variable {R : Wk} {G : Array GenState} {g : Nat}
theorem Gd.free (h : Gd R G) {st : GenState} (e : G[g]? = some st) (n : ∀ l c p fs cl, st ≠ .suspended dead l c p fs cl) : R g = none := by
  cases q : R g with
  | none => rfl
  | some k =>
    obtain ⟨l, c, p, fs, cl, z⟩ := h.poison g k q
    rw [e] at z
    exact absurd (Option.some.inj z) (n l c p fs cl)
theorem Gd.set (h : Gd R G) (hg : R g = none) {x : GenState} (hx : ∀ k l c p fs cl, x = .suspended k l c p fs cl → splitAtGen fs = none) : Gd R (G.setIfInBounds g x) := by
  refine ⟨fun i k q => ?_, fun i k l c p fs cl e q => ?_⟩
  · have ne : i ≠ g := fun z => by rw [z, hg] at q; cases q
    obtain ⟨l, c, p, fs, cl, z⟩ := h.poison i k q
    exact ⟨l, c, p, fs, cl, by rw [Array.getElem?_setIfInBounds_ne (Ne.symm ne)]; exact z⟩
  · by_cases ne : i = g
    · subst ne
      by_cases hi : i < G.size
      · rw [Array.getElem?_setIfInBounds_self_of_lt hi] at e
        exact hx _ _ _ _ _ _ (Option.some.inj e)
      · have e1 : (G.setIfInBounds i x)[i]? = none := by simp; omega
        rw [e1] at e
        cases e
    · rw [Array.getElem?_setIfInBounds_ne (Ne.symm ne)] at e
      exact h.flat i k l c p fs cl e q
theorem Gd.push (h : Gd R G) (c : Code) : Gd R (G.push (.fresh c)) := by
  refine ⟨fun i k q => ?_, fun i k l c' p fs cl e q => ?_⟩
  · obtain ⟨l, c', p, fs, cl, z⟩ := h.poison i k q
    have hi : i < G.size := (Array.getElem?_eq_some_iff.mp z).1
    refine ⟨l, c', p, fs, cl, ?_⟩
    rw [Array.getElem?_push, if_neg (Nat.ne_of_lt hi)]
    exact z
  · rw [Array.getElem?_push] at e
    split at e
    · cases e
    · exact h.flat i k l c' p fs cl e q
theorem Kp.set (hg : R g = none) (x : GenState) : Kp R G (G.setIfInBounds g x) := fun i k q => by
  have ne : i ≠ g := fun z => by rw [z, hg] at q; cases q
  rw [Array.getElem?_setIfInBounds_ne (Ne.symm ne)]
theorem Gd.kpPush (h : Gd R G) (c : Code) : Kp R G (G.push (.fresh c)) := fun i k q => by
  obtain ⟨l, c', p, fs, cl, z⟩ := h.poison i k q
  have hi : i < G.size := (Array.getElem?_eq_some_iff.mp z).1
  rw [Array.getElem?_push, if_neg (Nat.ne_of_lt hi)]
theorem endFlat_state {e : End} (h : EndFlat e) : ∀ k l c p fs cl, e.genState = .suspended k l c p fs cl → splitAtGen fs = none := by
  intro k l c p fs cl q
  cases e with
  | ret r => cases q
  | susp v g' l' k' c' p' fs' =>
    cases q
    exact h
end

theorem split_app : ∀ {fs gs : List Frame}, splitAtGen fs = none → splitAtGen gs = none → splitAtGen (fs ++ gs) = none
  | [], gs, _, h => h
  | .gen g k l c p :: fs, gs, h, _ => by cases h
  | .ret k h' g l c p kp :: fs, gs, h, h2 => by
    have h1 : splitAtGen fs = none := by
      have z : (splitAtGen fs).map (fun x => ((Frame.ret k h' g l c p kp) :: x.1, x.2.1, x.2.2)) = none := h
      cases q : splitAtGen fs with
      | none => rfl
      | some x => rw [q] at z; cases z
    show (splitAtGen (fs ++ gs)).map _ = none
    rw [split_app h1 h2] <;> rfl
theorem split_tail {k h' g l c p kp} {fs : List Frame} (h : splitAtGen (.ret k h' g l c p kp :: fs) = none) : splitAtGen fs = none := by
  have z : (splitAtGen fs).map (fun x => ((Frame.ret k h' g l c p kp) :: x.1, x.2.1, x.2.2)) = none := h
  cases q : splitAtGen fs with
  | none => rfl
  | some x => rw [q] at z; cases z

variable {M : Model}
theorem no_uns {Γ : Ctx} {p : Pos} {t : Sem PySem.Fin} {fs : List Frame} {s s' : Shared} {e : End} (h : Runs M Γ p t fs s e s') : ∀ w, t ≠ .unsupported w := by
  induction h with
  | segRet _ _ ih _ => exact ih
  | segGen _ _ ih _ => exact ih
  | segSuspOut _ _ ih => exact ih
  | segSuspGen _ _ _ _ ih _ => exact ih
  | _ => intro w q; cases q

theorem lift_runs {R : Wk} {Γ : Ctx} {p : Pos} {t : Sem PySem.Fin} {fs : List Frame} {s s' : Shared} {e : End} (h : Runs M Γ p t fs s e s') :
    splitAtGen fs = none → Gd R s.gens → Runs M Γ p t fs (lift R s) e (lift R s') ∧ Gd R s'.gens ∧ EndFlat e ∧ Kp R s.gens s'.gens := by
  induction h with
  | done => exact fun _ hg => ⟨.done, hg, True.intro, .refl⟩
  | raise => exact fun _ hg => ⟨.raise, hg, True.intro, .refl⟩
  | again hq _ ih => exact fun hf hg => let ⟨r, a⟩ := ih hf hg; ⟨.again hq r, a⟩
  | rule _ ih => exact fun hf hg => let ⟨r, a⟩ := ih hf hg; ⟨.rule r, a⟩
  | «at» _ ih => exact fun hf hg => let ⟨r, a⟩ := ih hf hg; ⟨.at r, a⟩
  | load ho _ ih => exact fun hf hg => let ⟨r, a⟩ := ih hf hg; ⟨.load ho r, a⟩
  | update ho _ ih => exact fun hf hg => let ⟨r, a⟩ := ih hf hg; ⟨.update ho r, a⟩
  | loadIfAlive _ ih => exact fun hf hg => let ⟨r, a⟩ := ih hf hg; ⟨.loadIfAlive r, a⟩
  | point _ ih => exact fun hf hg => let ⟨r, a⟩ := ih hf hg; ⟨.point r, a⟩
  | alloc _ ih => exact fun hf hg => let ⟨r, a⟩ := ih hf hg; ⟨.alloc r, a⟩
  | fresh _ ih => exact fun hf hg => let ⟨r, a⟩ := ih hf hg; ⟨.fresh r, a⟩
  | ask _ ih => exact fun hf hg => let ⟨r, a⟩ := ih hf hg; ⟨.ask r, a⟩
  | choose hn _ ih => exact fun hf hg => let ⟨r, a⟩ := ih hf hg; ⟨.choose hn r, a⟩
  | os _ ih => exact fun hf hg => let ⟨r, a⟩ := ih hf hg; ⟨.os r, a⟩
  | handled _ ih => exact fun hf hg => let ⟨r, a⟩ := ih hf hg; ⟨.handled r, a⟩
  | genState hs _ ih =>
    intro hf hg
    obtain ⟨r, a⟩ := ih hf hg
    refine ⟨.genState (st := wakeUp _ _) (by rw [lift_gens, hs]; rfl) (by rw [wakeUp_seen]; exact r), a⟩
  | stack _ ih => exact fun hf hg => let ⟨r, a⟩ := ih hf hg; ⟨.stack r, a⟩
  | thread _ ih => exact fun hf hg => let ⟨r, a⟩ := ih hf hg; ⟨.thread r, a⟩
  | newGen _ ih =>
    intro hf hg
    obtain ⟨r, a, b, d⟩ := ih hf (hg.push _)
    rw [lift_push] at r
    refine ⟨.newGen ?_, a, b, (hg.kpPush _).trans d⟩
    have e : ∀ z : Shared, (lift R z).gens.size = z.gens.size := fun z => ov_size R z.gens
    rw [e]
    exact r
  | call _ _ ih1 ih2 =>
    intro hf hg
    obtain ⟨r1, a1, _, d1⟩ := ih1 rfl hg
    obtain ⟨r2, a2, b2, d2⟩ := ih2 hf a1
    exact ⟨.call r1 r2, a2, b2, d1.trans d2⟩
  | callSusp _ ih =>
    intro hf hg
    obtain ⟨r1, a1, b1, d1⟩ := ih rfl hg
    exact ⟨.callSusp r1, a1, split_app b1 rfl, d1⟩
  | yield => exact fun _ hg => ⟨.yield, hg, rfl, .refl⟩
  | @resumeFresh Γ p g l k s c e₁ s₁ e s' hs _ hq _ ih1 ih2 =>
    intro hf hg
    have n : R g = none := hg.free hs fun _ _ _ _ _ z => by cases z
    obtain ⟨r1, a1, b1, d1⟩ := ih1 rfl (hg.set n fun _ _ _ _ _ _ z => by cases z)
    obtain ⟨r2, a2, b2, d2⟩ := ih2 hf (a1.set n (endFlat_state b1))
    rw [lift_set R _ g _ n] at r1 r2
    refine ⟨.resumeFresh (by rw [lift_gens, hs, n]; rfl) r1 hq r2, a2, b2, ?_⟩
    exact (Kp.set n _).trans (d1.trans ((Kp.set n _).trans d2))
  | @resumeSuspended Γ p g r l k s k₀ l₀ c₀ p₀ fs₀ cl e₁ s₁ e s' hs hr1 hq _ ih1 ih2 =>
    intro hf hg
    have n : R g = none := by
      cases q : R g with
      | none => rfl
      | some k' =>
        obtain ⟨l', c', p', fs', cl', z⟩ := hg.poison g k' q
        rw [hs] at z
        cases z
        exact absurd rfl (no_uns hr1 "")
    obtain ⟨r1, a1, b1, d1⟩ := ih1 (hg.flat g _ _ _ _ _ _ hs n) (hg.set n fun _ _ _ _ _ _ z => by cases z)
    obtain ⟨r2, a2, b2, d2⟩ := ih2 hf (a1.set n (endFlat_state b1))
    rw [lift_set R _ g _ n] at r1 r2
    refine ⟨.resumeSuspended (by rw [lift_gens, hs, n]; rfl) r1 hq r2, a2, b2, ?_⟩
    exact (Kp.set n _).trans (d1.trans ((Kp.set n _).trans d2))
  | resumeJustStarted hs hv _ ih =>
    intro hf hg
    have n := hg.free hs fun _ _ _ _ _ z => by cases z
    obtain ⟨r, a⟩ := ih hf hg
    exact ⟨.resumeJustStarted (by rw [lift_gens, hs, n]; rfl) hv r, a⟩
  | resumeThrowFresh hs _ ih =>
    intro hf hg
    have n := hg.free hs fun _ _ _ _ _ z => by cases z
    obtain ⟨r, a, b, d⟩ := ih hf (hg.set n fun _ _ _ _ _ _ z => by cases z)
    rw [lift_set R _ _ _ n] at r
    exact ⟨.resumeThrowFresh (by rw [lift_gens, hs, n]; rfl) r, a, b, (Kp.set n _).trans d⟩
  | resumeRunning hs _ ih =>
    intro hf hg
    have n := hg.free hs fun _ _ _ _ _ z => by cases z
    obtain ⟨r, a⟩ := ih hf hg
    exact ⟨.resumeRunning (by rw [lift_gens, hs, n]; rfl) r, a⟩
  | resumeFinished hs _ ih =>
    intro hf hg
    have n := hg.free hs fun _ _ _ _ _ z => by cases z
    obtain ⟨r, a⟩ := ih hf hg
    exact ⟨.resumeFinished (by rw [lift_gens, hs, n]; rfl) r, a⟩
  | segRet _ _ ih1 ih2 =>
    intro hf hg
    obtain ⟨r1, a1, _, d1⟩ := ih1 rfl hg
    obtain ⟨r2, a2, b2, d2⟩ := ih2 (split_tail hf) a1
    exact ⟨.segRet r1 r2, a2, b2, d1.trans d2⟩
  | segGen _ _ _ _ => intro hf; cases hf
  | segSuspOut hs _ ih =>
    intro hf hg
    obtain ⟨r1, a1, b1, d1⟩ := ih rfl hg
    exact ⟨.segSuspOut hs r1, a1, split_app b1 hf, d1⟩
  | segSuspGen hs _ _ _ _ _ => intro hf; rw [hs] at hf; cases hf

/-! ### the same of wp -/
def Lf {α : Type} (R : Wk) (s : Shared) (Q : α → Shared → Prop) (a : α) (s' : Shared) : Prop := ∃ s0, s' = lift R s0 ∧ Gd R s0.gens ∧ Kp R s.gens s0.gens ∧ Q a s0
theorem Lf.from {α : Type} {R : Wk} {s s1 : Shared} {Q : α → Shared → Prop} {a : α} {s' : Shared} (k : Kp R s.gens s1.gens) (h : Lf R s1 Q a s') : Lf R s Q a s' := by
  obtain ⟨s0, e, g, d, q⟩ := h
  exact ⟨s0, e, g, k.trans d, q⟩
theorem lift_wakes {R : Wk} {Γ : Ctx} {p : Pos} {g : Nat} {r : Resume} {s s' : Shared} {res : GenResult} (hg : Gd R s.gens) (h : Wakes M Γ p g r s res s') :
    Wakes M Γ p g r (lift R s) res (lift R s') ∧ Gd R s'.gens ∧ Kp R s.gens s'.gens := by
  unfold Wakes at h
  split at h
  · exact h.elim
  · rename_i c hs
    have n := hg.free hs fun _ _ _ _ _ z => by cases z
    have hl : (lift R s).gens[g]? = some (.fresh c) := by rw [lift_gens, hs, n]; rfl
    split at h
    · obtain ⟨e₁, s₁, hr, hq, rfl, rfl⟩ := h
      obtain ⟨r1, a1, b1, d1⟩ := lift_runs (R := R) hr rfl (hg.set n fun _ _ _ _ _ _ z => by cases z)
      rw [lift_set R _ g _ n] at r1 ⊢
      refine ⟨?_, a1.set n (endFlat_state b1), (Kp.set n _).trans (d1.trans (Kp.set n _))⟩
      unfold Wakes
      rw [hl]
      exact ⟨e₁, _, r1, hq, rfl, rfl⟩
    · rename_i v hv
      obtain ⟨rfl, rfl⟩ := h
      refine ⟨?_, hg, .refl⟩
      unfold Wakes
      rw [hl]
      cases v <;> first | exact absurd rfl hv | exact ⟨rfl, rfl⟩
    · obtain ⟨rfl, rfl⟩ := h
      refine ⟨?_, hg.set n fun _ _ _ _ _ _ z => (by cases z), Kp.set n _⟩
      unfold Wakes
      rw [hl, lift_set R _ g _ n]
      exact ⟨rfl, rfl⟩
  · rename_i k₀ l c₀ p₀ fs cl hs
    obtain ⟨e₁, s₁, hr, hq, rfl, rfl⟩ := h
    have n : R g = none := by
      cases q : R g with
      | none => rfl
      | some k' =>
        obtain ⟨l', c', p', fs', cl', z⟩ := hg.poison g k' q
        rw [hs] at z
        cases z
        exact absurd rfl (no_uns hr "")
    obtain ⟨r1, a1, b1, d1⟩ := lift_runs (R := R) hr (hg.flat g _ _ _ _ _ _ hs n) (hg.set n fun _ _ _ _ _ _ z => by cases z)
    rw [lift_set R _ g _ n] at r1 ⊢
    refine ⟨?_, a1.set n (endFlat_state b1), (Kp.set n _).trans (d1.trans (Kp.set n _))⟩
    have hl : (lift R s).gens[g]? = some (.suspended k₀ l c₀ p₀ fs cl) := by rw [lift_gens, hs, n]; rfl
    unfold Wakes
    rw [hl]
    exact ⟨e₁, _, r1, hq, rfl, rfl⟩
  · rename_i hs
    obtain ⟨rfl, rfl⟩ := h
    have n := hg.free hs fun _ _ _ _ _ z => by cases z
    refine ⟨?_, hg, .refl⟩
    unfold Wakes
    rw [show (lift R s').gens[g]? = some .running by rw [lift_gens, hs, n]; rfl]
    exact ⟨rfl, rfl⟩
  · rename_i hs
    obtain ⟨rfl, rfl⟩ := h
    have n := hg.free hs fun _ _ _ _ _ z => by cases z
    refine ⟨?_, hg, .refl⟩
    unfold Wakes
    rw [show (lift R s').gens[g]? = some .finished by rw [lift_gens, hs, n]; rfl]
    exact ⟨rfl, rfl⟩

theorem lift_wp {α : Type} {R : Wk} {Γ : Ctx} (t : Sem α) : ∀ {Q : α → Shared → Prop} {E : Value → Shared → Prop} {p : Pos} {s : Shared}, Gd R s.gens → wp M Γ t (fun a _ s' => Q a s') (fun e _ s' => E e s') p s →
    wp M Γ t (fun a _ s' => Lf R s Q a s') (fun e _ s' => Lf R s E e s') p (lift R s) := by
  have wk : ∀ {β : Type} {t : Sem β} {Q : β → Shared → Prop} {E : Value → Shared → Prop} {p : Pos} {s s1 s2 : Shared}, Kp R s.gens s1.gens → wp M Γ t (fun a _ s' => Lf R s1 Q a s') (fun e _ s' => Lf R s1 E e s') p s2 →
      wp M Γ t (fun a _ s' => Lf R s Q a s') (fun e _ s' => Lf R s E e s') p s2 := fun k h =>
    Sem.wp_mono _ _ _ (fun _ _ _ z => Lf.from k z) (fun _ _ _ z => Lf.from k z) _ _ h
  induction t with
  | pure a => intro Q E p s hg h; exact ⟨s, rfl, hg, .refl, h⟩
  | raise e => intro Q E p s hg h; exact ⟨s, rfl, hg, .refl, h⟩
  | unsupported _ => intro Q E p s _ h; exact h
  | finish _ => intro Q E p s _ h; exact h
  | rule _ k ih => intro Q E p s hg h; exact ih () hg h
  | «at» p' k ih => intro Q E p s hg h; exact ih () hg h
  | load a _ k ih => intro Q E p s hg h; obtain ⟨o, ho, h⟩ := h; exact ⟨o, ho, ih o hg h⟩
  | update a _ f k ih => intro Q E p s hg h; exact ⟨h.1, ih () (s := { s with heap := s.heap.update a f }) hg h.2⟩
  | loadIfAlive a k ih => intro Q E p s hg h; exact ih _ hg h
  | point _ k ih => intro Q E p s hg h; exact ih () hg h
  | register _ _ => intro Q E p s _ h; exact h
  | alloc o k ih => intro Q E p s hg h; exact ih _ (s := { s with heap := s.heap.push o }) hg h
  | fresh k ih => intro Q E p s hg h; exact ih _ (s := { s with toks := s.toks + 1 }) hg h
  | ask k ih => intro Q E p s hg h; exact ih _ hg h
  | choose src m k ih => intro Q E p s hg h; exact ⟨h.1, ih _ (s := { s with drawn := s.drawn.bump src }) hg h.2⟩
  | os q _ k ih => intro Q E p s hg h; exact ih _ (s := { s with os := (Os.step s.os q).1 }) hg h
  | call c hd _ _ k ih =>
    intro Q E p s hg h
    obtain ⟨r, s', hr, h⟩ := h
    obtain ⟨r1, a1, _, d1⟩ := lift_runs (R := R) hr rfl hg
    exact ⟨r, lift R s', r1, wk d1 (ih r a1 h)⟩
  | handled own k ih => intro Q E p s hg h; exact ih _ hg h
  | genState g k ih =>
    intro Q E p s hg h
    obtain ⟨st, hs, h⟩ := h
    refine ⟨wakeUp (R g) st, by rw [lift_gens, hs]; rfl, ?_⟩
    rw [wakeUp_seen]
    exact ih _ hg h
  | newGen c k ih =>
    intro Q E p s hg h
    have e : (lift R s).gens.size = s.gens.size := ov_size R s.gens
    show wp M Γ (k (lift R s).gens.size) _ _ p { lift R s with gens := (lift R s).gens.push (.fresh c) }
    rw [← lift_push, e]
    exact wk (hg.kpPush c) (ih _ (s := { s with gens := s.gens.push (.fresh c) }) (hg.push c) h)
  | resume g r _ k ih =>
    intro Q E p s hg h
    obtain ⟨res, s', hw, h⟩ := h
    obtain ⟨w1, a1, d1⟩ := lift_wakes (R := R) hg hw
    exact ⟨res, lift R s', w1, wk d1 (ih res a1 h)⟩
  | yield _ _ _ _ => intro Q E p s _ h; exact h
  | stack k ih => intro Q E p s hg h; exact ih _ hg h
  | fork _ _ => intro Q E p s _ h; exact h
  | thread k ih => intro Q E p s hg h; exact ih _ hg h
  | await _ _ _ _ _ => intro Q E p s _ h; exact h

/-! ### every sleeper is put beyond reach, and given back -/
def dull (st : GenState) : GenState := match st with
  | .suspended _ l c p fs cl => .suspended dead l c p fs cl
  | st => st
def dulled (s : Shared) : Shared := { s with gens := s.gens.map dull }
def wakers (G : Array GenState) : Wk := fun i => match G[i]? with
  | some (.suspended k _ _ _ _ _) => some k
  | _ => none
theorem dull_bare (st : GenState) : (dull st).bare = st.bare := by cases st <;> rfl
theorem dulled_bare {s : Shared} (h : ∀ x ∈ s.gens, x.bare = true) : ∀ x ∈ (dulled s).gens, x.bare = true := fun x hx => by
  obtain ⟨y, hy, rfl⟩ := Array.mem_map.mp hx
  rw [dull_bare]
  exact h y hy
theorem lift_dulled (s : Shared) : lift (wakers s.gens) (dulled s) = s := by
  have e : ov (wakers s.gens) (s.gens.map dull) = s.gens := by
    apply Array.ext_getElem?
    intro i
    rw [ov_get, Array.getElem?_map]
    cases q : s.gens[i]? with
    | none => rfl
    | some st =>
      unfold wakers
      rw [q]
      cases st <;> rfl
  show ({ s with gens := ov (wakers s.gens) (s.gens.map dull) } : Shared) = s
  rw [e]
theorem gd_dulled (s : Shared) : Gd (wakers s.gens) (dulled s).gens := by
  refine ⟨fun i k q => ?_, fun i k l c p fs cl e q => ?_⟩
  · show ∃ l c p fs cl, (s.gens.map dull)[i]? = _
    unfold wakers at q
    rw [Array.getElem?_map]
    cases z : s.gens[i]? with
    | none => rw [z] at q; cases q
    | some st =>
      rw [z] at q
      cases st with
      | suspended k l c p fs cl => exact ⟨l, c, p, fs, cl, rfl⟩
      | _ => cases q
  · have e' : (s.gens.map dull)[i]? = some (.suspended k l c p fs cl) := e
    rw [Array.getElem?_map] at e'
    cases z : s.gens[i]? with
    | none => rw [z] at e'; cases e'
    | some st =>
      rw [z] at e'
      cases st with
      | suspended k2 l2 c2 p2 fs2 cl2 =>
        unfold wakers at q
        rw [z] at q
        cases q
      | _ => cases e'
/-- THE FRAME: what is shown where every sleeper is out of reach holds where they sleep on, and they sleep on -/
theorem frame {α : Type} {A : Around} {t : Sem α} {Q : α → Shared → Prop} {E : Value → Shared → Prop} {s : Shared} (h : wpAny M A t Q E (dulled s)) :
    wpAny M A t (fun a s' => ∃ s0, Q a s0 ∧ s' = { s0 with gens := s'.gens } ∧ ((∀ x ∈ s0.gens, x.bare = true) → ∀ x ∈ s'.gens, x.bare = true) ∧ ∀ (i : Nat) k l c p fs cl, s.gens[i]? = some (GenState.suspended k l c p fs cl) → s'.gens[i]? = some (GenState.suspended k l c p fs cl))
      (fun e s' => ∃ s0, E e s0 ∧ s' = { s0 with gens := s'.gens } ∧ ((∀ x ∈ s0.gens, x.bare = true) → ∀ x ∈ s'.gens, x.bare = true)) s := by
  have fin : ∀ {s0 : Shared}, Kp (wakers s.gens) (dulled s).gens s0.gens → lift (wakers s.gens) s0 = { s0 with gens := (lift (wakers s.gens) s0).gens } ∧ ((∀ x ∈ s0.gens, x.bare = true) → ∀ x ∈ (lift (wakers s.gens) s0).gens, x.bare = true) ∧
      ∀ (i : Nat) k l c p fs cl, s.gens[i]? = some (GenState.suspended k l c p fs cl) → (lift (wakers s.gens) s0).gens[i]? = some (GenState.suspended k l c p fs cl) := fun {s0} d => by
    refine ⟨rfl, fun hb x hx => ?_, fun i k l c p fs cl e => ?_⟩
    · obtain ⟨i, hi, rfl⟩ := Array.mem_iff_getElem.mp hx
      have q : (lift (wakers s.gens) s0).gens[i]? = some (lift (wakers s.gens) s0).gens[i] := Array.getElem?_eq_getElem hi
      rw [lift_gens] at q
      cases z : s0.gens[i]? with
      | none => rw [z] at q; cases q
      | some st =>
        rw [z] at q
        have q2 : wakeUp (wakers s.gens i) st = (lift (wakers s.gens) s0).gens[i] := Option.some.inj q
        rw [← q2, wakeUp_bare]
        exact hb st (Array.mem_of_getElem? z)
    · have w : wakers s.gens i = some k := by unfold wakers; rw [e]
      rw [lift_gens, d i k w, w]
      show ((s.gens.map dull)[i]?).map _ = _
      rw [Array.getElem?_map, e]
      rfl
  intro Γ p hΓ
  have z := lift_wp (R := wakers s.gens) t (gd_dulled s) (h Γ p hΓ)
  rw [lift_dulled] at z
  refine Sem.wp_mono _ _ _ (fun a p' s' q => ?_) (fun e p' s' q => ?_) _ _ z
  · obtain ⟨s0, rfl, _, d, q⟩ := q
    obtain ⟨f1, f2, f3⟩ := fin d
    exact ⟨s0, q, f1, f2, f3⟩
  · obtain ⟨s0, rfl, _, d, q⟩ := q
    obtain ⟨f1, f2, _⟩ := fin d
    exact ⟨s0, q, f1, f2⟩
end K39F
/-! Ex -/
set_option maxHeartbeats 2000000
/-! the book's two methods, step by step over the very state -/
namespace K39
open PySem PySem.Spec PyProof.Rows L2

/-- the heap has grown, and nothing else -/
structure Gr (s s' : Shared) : Prop where
  keep : ∀ b o, s.heap.get? b = some o → s'.heap.get? b = some o
  size : s.heap.objs.size ≤ s'.heap.objs.size
  gens : s'.gens = s.gens
  os : s'.os = s.os
theorem Gr.refl (s : Shared) : Gr s s := ⟨fun _ _ h => h, Nat.le_refl _, rfl, rfl⟩
theorem Gr.trans {s s1 s2 : Shared} (a : Gr s s1) (b : Gr s1 s2) : Gr s s2 := ⟨fun c o h => b.keep c o (a.keep c o h), Nat.le_trans a.size b.size, b.gens.trans a.gens, b.os.trans a.os⟩
theorem Gr.tok {s s' : Shared} (a : Gr s s') (t : Nat) : Gr s { s' with toks := t } := ⟨a.keep, a.size, a.gens, a.os⟩

abbrev FnP (K : PySem.W.Frag) (x q : Str) (st : Stmt) (f : Addr) (fd : FuncData) : Prop := FunD K x q (defArgs st) (defBody st) (defScope st) [] [] f fd

/-- what is asked of the class Book as the top has made it -/
structure BkT (K : PySem.W.Frag) (mg : Str → Option Value) (C fG fH : Addr) : Prop where
  cl : Cls K C
  nP : NoAttr K C "own_parts"
  nI : NoAttr K C "own_items"
  gG : PySem.W.findIn K (.ref C) "__getitem__" = some (some (.ref fG))
  iG : PySem.W.isFn K (.ref fG) = true
  nG : PySem.W.fnIn K fG = true
  gH : PySem.W.findIn K (.ref C) "__contains__" = some (some (.ref fH))
  iH : PySem.W.isFn K (.ref fH) = true
  fdG : ∃ fd, FnP K "__getitem__" "Book.__getitem__" sBookGet fG fd
  fdH : ∃ fd, FnP K "__contains__" "Book.__contains__" sBookHas fH fd
  isi : mg "isinstance" = none
  str : mg "str" = none

/-- the book at bk: its own dict at dx, its items' dict at di -/
structure BookIs (H : Hp) (C bk dx di : Addr) (fs : List (Str × V)) (kvs : List (Key × V)) : Prop where
  ob : H bk = some (.ins C dx fs)
  at_ : fs.lookup ("own_items" : Str) = some (.ref di)
  dk : H di = some (.dK kvs)

/-- the module, at a heap -/
structure Here (K : PySem.W.Frag) (mg : Str → Option Value) (base : Heap) (h : Heap) : Prop where
  mod : Mod K mg base
  bk : ∀ b o, base.get? b = some o → h.get? b = some o
section
variable {K : PySem.W.Frag} {mg : Str → Option Value} {base h h' : Heap}
theorem Here.kin (a : Here K mg base h) : K.In h := a.mod.kin.keeps a.bk
theorem Here.lim (a : Here K mg base h) : h.NoLimit := a.mod.nolimit.keeps a.bk
theorem Here.keep (a : Here K mg base h) (k : ∀ b o, h.get? b = some o → h'.get? b = some o) : Here K mg base h' := ⟨a.mod, fun b o e => k b o (a.bk b o e)⟩
end

section
variable {P : Program} {w : World} {K : PySem.W.Frag} {mg : Str → Option Value} {base : Heap} {A : Around} {E : Value → Shared → Prop} {s : Shared} {env : Env}
theorem bltn {x : Str} {u : Value} {pos : Pos} {Q : Value → Shared → Prop} (M : Here K mg base s.heap) (hk : env.scope.kind = .function) (hgl : env.globals = mainGlobals) (hbl : env.builtins = builtinsNs) (hg : env.kindOf x = some .globalImplicit)
    (hm : mg x = none) (hv : bootBuiltins x = some u) (h : Q u s) (hn : x ≠ "__name__" := by decide) (hd : (x == ("__debug__" : Str)) = false := by decide) : wpAny (model P w) A (eval (.Name x pos) env) Q E s := by
  obtain ⟨mb, h1, h2⟩ := M.mod.blt
  exact Calls.Name_function_global hk hg (Calls.loadGlobal_builtin (by rw [hgl]; exact M.mod.glob.keeps M.bk) hm (by rw [hbl]; exact h1.keeps M.bk) ((h2 x hn).trans hv) h) hd
theorem ldE {x : Str} {pos : Pos} {m : Str → Option Value} {v : Value} {Q : Value → Shared → Prop} (hn : s.heap.Ns env.locals m) (hv : m x = some v) (h : Q v s)
    (hk : env.scope.kind = .function := by rfl) (hl : env.kindOf x = some .local := by rfl) (hd : (x == ("__debug__" : Str)) = false := by decide) : wpAny (model P w) A (eval (.Name x pos) env) Q E s :=
  wpAny_Name (wpAny_loadName_local hk hl hn hv h) hd

/-- isinstance(x, str), x a local -/
theorem isStrE {xp sp ip cp : Pos} {x : Str} {m : Str → Option Value} {v : Value} {b : Bool} {t : Value} {Z : Heap → Prop} {Q : Value → Shared → Prop} (M : Here K mg base s.heap) (hi : mg "isinstance" = none) (hs : mg "str" = none)
    (hn : s.heap.Ns env.locals m) (hv : m x = some v) (kx : PySem.W.KitX K v t Z) (z : Z s.heap) (ho : v ≠ .builtin "__main__.__loader__#opaque") (ke : PySem.W.kitOne K t (.type "str") = some b) (h : ∀ tk, Q (.bool b) { s with toks := tk })
    (hk : env.scope.kind = .function := by rfl) (hgl : env.globals = mainGlobals := by rfl) (hbl : env.builtins = builtinsNs := by rfl) (hg1 : env.kindOf "isinstance" = some .globalImplicit := by rfl) (hg2 : env.kindOf "str" = some .globalImplicit := by rfl)
    (hl : env.kindOf x = some .local := by rfl) (hd : (x == ("__debug__" : Str)) = false := by decide) :
    wpAny (model P w) A (eval (.Call (.Name "isinstance" ip) [.Name x xp, .Name "str" sp] [] cp) env) Q E s := by
  refine wpAny_Call_Name_kw (bltn M hk hgl hbl hg1 hi boot_isinstance ?_)
  refine PyProof.Rows.callWith_builtin1 ?_
  show wpAny _ _ (spliced ((false, eval (.Name x xp) env) :: (false, eval (.Name "str" sp) env) :: [])) _ _ s
  refine Calls.spliced_cons (ldE hn hv ?_ hk hl hd)
  refine Calls.spliced_cons (bltn M hk hgl hbl hg2 hs boot_str ?_)
  refine Calls.spliced_nil ?_
  exact PySem.W.kia_one kx M.kin z ke ho h
/-- self.own_items -/
theorem itemsE {H : Hp} {C bk dx di : Addr} {fs : List (Str × V)} {kvs : List (Key × V)} {m : Str → Option Value} {sp ap : Pos} {Q : Value → Shared → Prop} (M : Here K mg base s.heap) (cl : Cls K C) (nI : NoAttr K C "own_items")
    (ok : HOk P w H s.heap) (B : BookIs H C bk dx di fs kvs) (hn : s.heap.Ns env.locals m) (hv : m "self" = some (.ref bk)) (h : Q (.ref di) { s with toks := s.toks + 1 })
    (hk : env.scope.kind = .function := by rfl) (hl : env.kindOf "self" = some .local := by rfl) (hb : attributeBase (.Name "self" sp) "own_items" env (eval (.Name "self" sp) env) = eval (.Name "self" sp) env := by rfl) :
    wpAny (model P w) A (eval (.Attribute (.Name "self" sp) "own_items" ap) env) Q E s := by
  refine attr_of hb (ldE hn hv ?_ hk hl)
  obtain ⟨mA, O, r, _, _, _⟩ := ins_get ok B.ob
  obtain ⟨u, hu, ru⟩ := RelO.some_of (v := .ref di) (o := mA "own_items") (by rw [← B.at_]; exact r _)
  cases (show u = Value.ref di from ru)
  exact get_map M.kin O (cl.get _) cl.hd nI hu rfl h
/-- key in self.own_items; key not in self.own_items -/
theorem inE {H : Hp} {di : Addr} {kvs : List (Key × V)} {x : Str} {t : Tok} {Q : Value → Shared → Prop} (ok : HOk P w H s.heap) (dk : H di = some (.dK kvs)) (h : Q (.bool (valV kvs (.inr x)).isSome) { s with toks := s.toks + 1 }) :
    wpAny (model P w) A (compareOp .In (.str x t) (.ref di)) Q E s := by
  obtain ⟨z, hd, vs, rel, dd⟩ := dk_of ok dk
  refine wpAny_in_of (kV_is (k := .inr x) ⟨t, rfl⟩) hd dd.mapOf ?_
  rw [← (rel.val (.inr x)).isSome_eq]
  exact h
theorem notInE {H : Hp} {di : Addr} {kvs : List (Key × V)} {x : Str} {t : Tok} {Q : Value → Shared → Prop} (ok : HOk P w H s.heap) (dk : H di = some (.dK kvs)) (h : Q (.bool (!(valV kvs (.inr x)).isSome)) { s with toks := s.toks + 1 }) :
    wpAny (model P w) A (compareOp .NotIn (.str x t) (.ref di)) Q E s := by
  obtain ⟨z, hd, vs, rel, dd⟩ := dk_of ok dk
  refine wpAny_notIn_of (kV_is (k := .inr x) ⟨t, rfl⟩) hd dd.mapOf ?_
  rw [← (rel.val (.inr x)).isSome_eq]
  exact h
theorem getE {H : Hp} {di it : Addr} {kvs : List (Key × V)} {x : Str} {t : Tok} {Q : Value → Shared → Prop} (ok : HOk P w H s.heap) (dk : H di = some (.dK kvs)) (hv : valV kvs (.inr x) = some (.ref it)) (h : Q (.ref it) { s with toks := s.toks + 1 }) :
    wpAny (model P w) A (getItem (.ref di) (.str x t)) Q E s := by
  obtain ⟨z, hd, vs, rel, dd⟩ := dk_of ok dk
  obtain ⟨u, hw, rw'⟩ := RelO.some_of (v := .ref it) (o := valueAt vs (.inr x : Key)) (by rw [← hv]; exact rel.val _)
  cases (show u = Value.ref it from rw')
  exact wpAny_getItem_of (kV_is (k := .inr x) ⟨t, rfl⟩) dd.mapOf hw h

theorem kit_s (K : PySem.W.Frag) : PySem.W.kitOne K (.type "str") (.type "str") = some true := by rfl
theorem kit_n (K : PySem.W.Frag) : PySem.W.kitOne K (.type "NoneType") (.type "str") = some false := kit_ty (by decide +kernel)
theorem dfl_none {K : PySem.W.Frag} {dV : Value} (h : DflV K dV []) : dV = .none := by
  rcases h with h | ⟨h, _⟩
  · first | exact h.1 | exact h.2
  · exact absurd rfl h
/-! ### the frame of a method that is called with two arguments -/
theorem has2 {x y : Str} {u v : Value} {sc : Scope} {cs : List (Str × Addr)} {qual : Str} {L f : Addr} {cdv : Value} (hx : sc.names.lookup x = some .local) (hy : sc.names.lookup y = some .local) (hxy : x ≠ y) :
    bindL (envOfC qual sc L f cdv).kindOf [(x, u), (y, v)] (fun _ => none) x = some u ∧ bindL (envOfC qual sc L f cdv).kindOf [(x, u), (y, v)] (fun _ => none) y = some v := by
  have nd : ([x, y] : List Str).Nodup := by simp [hxy]
  exact ⟨bindL_get (P := [x, y]) (vs := [u, v]) (i := 0) nd rfl rfl hx, bindL_get (P := [x, y]) (vs := [u, v]) (i := 1) nd rfl rfl hy⟩
end
section
variable {P : Program} {w : World} {K : PySem.W.Frag} {mg : Str → Option Value} {base : Heap} {A : Around} {s : Shared} {C fG fH bk dx di : Addr} {H : Hp} {fs : List (Str × V)} {kvs : List (Key × V)}
theorem grC {s s1 : Shared} {L : Addr} {m cm : Str → Option Value} {cs : List (Str × Addr)} (x : InCallC s L m cs cm s1) : Gr s s1 := by
  obtain ⟨h1, tk, e, k⟩ := x.done
  have hlt := x.toInCall.ns.lt
  have hf := x.toInCall.fresh
  subst e
  exact ⟨k, Nat.le_trans hf (Nat.le_of_lt hlt), rfl, rfl⟩
/-- Book.__contains__: whether a text is the id of an item; nothing else is one -/
theorem has_call {v : Value} {b : Bool} {R : Result → Shared → Prop} (T : BkT K mg C fG fH) (M : Here K mg base s.heap) (ok : HOk P w H s.heap) (B : BookIs H C bk dx di fs kvs) (hroom : A.depth < recursionLimit)
    (hv : (v = .none ∧ b = false) ∨ ∃ x t, v = .str x t ∧ b = (valV kvs (.inr x)).isSome) (h : ∀ s', Gr s s' → R (.ok (.ret (.bool b))) s') : codeAny (model P w) A (.call (.ref fH) ⟨[.ref bk, v], []⟩) R s := by
  obtain ⟨fd, F⟩ := T.fdH
  obtain ⟨oc, od, dV, kV, doc, pm, an, cdv, ct, osl, rfl, lk, hcd, hdv, _⟩ := F.ex
  have e0 : dV = .none := dfl_none hdv
  subst e0
  refine Att.call_fn (binds := [("self", .ref bk), ("key", v)]) M.kin M.lim lk hcd hroom (BindsTo.of_eq (by rfl)) (by rfl) (fun s₁ IC => ?_) rfl rfl rfl
  have G := grC IC
  have M1 := M.keep G.keep
  have ok1 := ok.kept G.keep
  have hn := IC.toInCall.ns
  obtain ⟨hs, hy⟩ := has2 (x := "self") (y := "key") (u := .ref bk) (v := v) (sc := defScope sBookHas) (cs := []) (qual := "Book.__contains__") (L := s.heap.objs.size) (f := fH) (cdv := cdv) rfl rfl (by decide +kernel)
  refine wpAny_execs_cons (wpAny_Return_some ?_)
  refine BoolOp_and ?_
  rcases hv with ⟨rfl, rfl⟩ | ⟨x, t, rfl, rfl⟩
  · refine isStrE M1 T.isi T.str hn hy PySem.W.kitx_none True.intro (fun z => nomatch z) (kit_n K) fun tk => ?_
    refine wpAny_truthy_bool ?_
    exact h _ (G.tok tk)
  · refine isStrE M1 T.isi T.str hn hy PySem.W.kitx_str True.intro (fun z => nomatch z) (kit_s K) fun tk => ?_
    refine wpAny_truthy_bool ?_
    refine BoolOp_one (wpAny_Compare1 (ldE (s := { s₁ with toks := tk }) hn hy ?_))
    refine itemsE (s := { s₁ with toks := tk }) M1 T.cl T.nI ok1 B hn hs ?_
    refine inE (H := H) (kvs := kvs) ok1 B.dk ?_
    exact h _ (G.tok _)
/-- Book.__getitem__ of an id that an item has -/
theorem get_call {x : Str} {t : Tok} {it : Addr} {R : Result → Shared → Prop} (T : BkT K mg C fG fH) (M : Here K mg base s.heap) (ok : HOk P w H s.heap) (B : BookIs H C bk dx di fs kvs) (hroom : A.depth < recursionLimit)
    (hv : valV kvs (.inr x) = some (.ref it)) (h : ∀ s', Gr s s' → R (.ok (.ret (.ref it))) s') : codeAny (model P w) A (.call (.ref fG) ⟨[.ref bk, .str x t], []⟩) R s := by
  obtain ⟨fd, F⟩ := T.fdG
  obtain ⟨oc, od, dV, kV, doc, pm, an, cdv, ct, osl, rfl, lk, hcd, hdv, _⟩ := F.ex
  have e0 : dV = .none := dfl_none hdv
  subst e0
  refine Att.call_fn (binds := [("self", .ref bk), ("key", .str x t)]) M.kin M.lim lk hcd hroom (BindsTo.of_eq (by rfl)) (by rfl) (fun s₁ IC => ?_) rfl rfl rfl
  have G := grC IC
  have M1 := M.keep G.keep
  have ok1 := ok.kept G.keep
  have hn := IC.toInCall.ns
  obtain ⟨hs, hy⟩ := has2 (x := "self") (y := "key") (u := .ref bk) (v := .str x t) (sc := defScope sBookGet) (cs := []) (qual := "Book.__getitem__") (L := s.heap.objs.size) (f := fG) (cdv := cdv) rfl rfl (by decide +kernel)
  refine wpAny_execs_cons (wpAny_If ?_)
  refine isTrue_or (isTrue_not (isTrue_plain ?_))
  refine isStrE M1 T.isi T.str hn hy PySem.W.kitx_str True.intro (fun z => nomatch z) (kit_s K) fun tk => ?_
  refine wpAny_truthy_bool ?_
  refine isTrue_or (wpAny_isTrue_Compare1 (ldE (s := { s₁ with toks := tk }) hn hy ?_))
  refine itemsE (s := { s₁ with toks := tk }) M1 T.cl T.nI ok1 B hn hs ?_
  refine notInE (H := H) (kvs := kvs) ok1 B.dk ?_
  refine wpAny_truthy_bool ?_
  rw [hv]
  refine isTrue_or_nil ?_
  refine wpAny_execs_nil ?_
  refine wpAny_execs_cons (wpAny_Return_some ?_)
  refine subD_of PySem.F.slot_dict_getitem.lookup (fun _ _ => rfl) ?_
  refine itemsE (s := { s₁ with toks := tk + 1 + 1 }) M1 T.cl T.nI ok1 B hn hs ?_
  refine ldE (s := { s₁ with toks := tk + 1 + 1 + 1 }) hn hy ?_
  obtain ⟨z, hd, vs, rel, dd⟩ := dk_of ok1 B.dk
  obtain ⟨od, es, ep, ed, ec, _⟩ := id dd
  refine ⟨⟨od, ed, ec.1⟩, ?_⟩
  refine getE (H := H) (kvs := kvs) ok1 B.dk hv ?_
  exact h _ (G.tok _)
end
end K39
/-! Gn -/
set_option maxHeartbeats 2000000
/-! the generator chain: its pieces -/
namespace K39
open PySem PySem.Spec PyProof.Rows L2

/-- what the items' dict says of an id: its kind and its fallback -/
abbrev Lk : Type := Str → Option (Str × Option Str)
def fbV : Option Str → V
  | none => .non
  | some y => .str y
def fbU : Option Str → Tok → Value
  | none, _ => .none
  | some y, t => .str y t
structure ItemsAre (H : Hp) (kvs : List (Key × V)) (lk : Lk) : Prop where
  no : ∀ x, lk x = none → valV kvs (.inr x) = none
  yes : ∀ x k fb, lk x = some (k, fb) → ∃ it c, valV kvs (.inr x) = some (.ref it) ∧ H it = some (.tup [.str x, .str k, c, fbV fb])
/-- the book at bk holds such items -/
def BookF (H : Hp) (C bk : Addr) (lk : Lk) : Prop := ∃ dx di fs kvs, BookIs H C bk dx di fs kvs ∧ ItemsAre H kvs lk
theorem ItemsAre.some {H : Hp} {kvs : List (Key × V)} {lk : Lk} (a : ItemsAre H kvs lk) (x : Str) : (valV kvs (.inr x)).isSome = (lk x).isSome := by
  cases e : lk x with
  | none => rw [a.no x e] <;> rfl
  | some z =>
    obtain ⟨it, c, h, _⟩ := a.yes x z.1 z.2 e
    rw [h] <;> rfl

section
variable {P : Program} {w : World} {K : PySem.W.Frag} {mg : Str → Option Value} {base : Heap} {A : Around} {E : Value → Shared → Prop} {s : Shared} {env : Env} {C fG fH bk : Addr} {H : Hp} {lk : Lk} {m : Str → Option Value}
theorem in1_depth {A : Around} : A.in1.depth = A.depth := rfl
/-- book[x] -/
theorem subBook {x : Str} {y : Str} {t : Tok} {k : Str} {fb : Option Str} {p1 p2 p3 : Pos} {Q : Value → Shared → Prop} (T : BkT K mg C fG fH) (M : Here K mg base s.heap) (ok : HOk P w H s.heap) (B : BookF H C bk lk) (hroom : A.depth < recursionLimit)
    (hn : s.heap.Ns env.locals m) (hb : m "book" = some (.ref bk)) (hx : m x = some (.str y t)) (hab : base.objs.size ≤ env.locals) (hlk : lk y = some (k, fb))
    (h : ∀ it c s', Gr s s' → H it = some (.tup [.str y, .str k, c, fbV fb]) → Q (.ref it) s')
    (hk : env.scope.kind = .function := by rfl) (hl1 : env.kindOf "book" = some .local := by rfl) (hl2 : env.kindOf x = some .local := by rfl) (hd : (x == ("__debug__" : Str)) = false := by decide) :
    wpAny (model P w) A (eval (.Subscript (.Name "book" p1) (.Name x p2) p3) env) Q E s := by
  obtain ⟨dx, di, fs, kvs, B, it⟩ := B
  obtain ⟨a, c, hv, ha⟩ := it.yes y k fb hlk
  obtain ⟨mA, O, r, _, _, _⟩ := ins_get ok B.ob
  obtain ⟨od, J, _⟩ := O.look
  refine Subscript_ (ldE hn hb (ldE hn hx ?_ hk hl2 hd) hk hl1)
  refine PySem.W.sub_K (K := K) (h₀ := base) (L := env.locals) (m := m) (f := fG) ⟨hn, M.bk, hab⟩ M.mod.kin J T.gG T.nG T.iG ?_
  refine wpAny_call (codeAny_mono (get_call (R := wants Q E) T M ok B hroom hv fun s' G => ?_) fun _ _ z => z)
  exact h a c s' G ha
/-- book[x][i] -/
theorem subField {x : Str} {y : Str} {t : Tok} {k : Str} {fb : Option Str} {i : Nat} {z : V} {j : Nat} {p1 p2 p3 p4 p5 : Pos} {Q : Value → Shared → Prop} (T : BkT K mg C fG fH) (M : Here K mg base s.heap) (ok : HOk P w H s.heap) (B : BookF H C bk lk) (hroom : A.depth < recursionLimit)
    (hn : s.heap.Ns env.locals m) (hb : m "book" = some (.ref bk)) (hx : m x = some (.str y t)) (hab : base.objs.size ≤ env.locals) (hlk : lk y = some (k, fb)) (hi : i < 4) (hz : ∀ c, ([.str y, .str k, c, fbV fb] : List V)[i]? = some z)
    (h : ∀ u s', Gr s s' → RelV z u → Q u s')
    (hk : env.scope.kind = .function := by rfl) (hl1 : env.kindOf "book" = some .local := by rfl) (hl2 : env.kindOf x = some .local := by rfl) (hd : (x == ("__debug__" : Str)) = false := by decide) :
    wpAny (model P w) A (eval (.Subscript (.Subscript (.Name "book" p1) (.Name x p2) p3) (.Constant (.int (i : Nat)) j p4) p5) env) Q E s := by
  refine subD_of slot_tuple_getitem.lookup (fun _ _ => rfl) (subBook T M ok B hroom hn hb hx hab hlk (fun it c s1 G1 hit => ?_) hk hl1 hl2 hd)
  refine wpAny_Constant_int ?_
  obtain ⟨hlen, its, r, pl⟩ := (show ObjOk P w H s1.heap it (.tup [.str y, .str k, c, fbV fb]) from (ok.kept G1.keep) it _ hit)
  obtain ⟨u, hu, ru⟩ := r.get (hz c)
  have e4 : its.length = 4 := r.length.symm
  refine ⟨pl.typeIs, ?_⟩
  refine PyProof.Rows.getItem_tuple (j := i) (x := u) (s := { s1 with toks := s1.toks + 1 }) pl (by omega) (by omega) ?_ (by simpa using hu) (h u _ (G1.tok _) ru)
  rw [List.size_toArray, e4]
  exact seqIndex_of (by omega) (by omega)
end
/-- all but the cells of own have stayed, the heap has grown -/
structure Mv (own : List Addr) (s s' : Shared) : Prop where
  keep : ∀ b o, b ∉ own → s.heap.get? b = some o → s'.heap.get? b = some o
  size : s.heap.objs.size ≤ s'.heap.objs.size
  gens : s'.gens = s.gens
  os : s'.os = s.os
theorem Gr.mv {own : List Addr} {s s' : Shared} (g : Gr s s') : Mv own s s' := ⟨fun b o _ e => g.keep b o e, g.size, g.gens, g.os⟩
theorem Mv.trans {own : List Addr} {s s1 s2 : Shared} (a : Mv own s s1) (b : Mv own s1 s2) : Mv own s s2 := ⟨fun c o n h => b.keep c o n (a.keep c o n h), Nat.le_trans a.size b.size, b.gens.trans a.gens, b.os.trans a.os⟩
theorem Mv.mono {own own' : List Addr} {s s' : Shared} (a : Mv own s s') (h : ∀ b ∈ own, b ∈ own') : Mv own' s s' := ⟨fun b o n e => a.keep b o (fun z => n (h b z)) e, a.size, a.gens, a.os⟩
theorem Mv.tok {own : List Addr} {s s' : Shared} (a : Mv own s s') (t : Nat) : Mv own s { s' with toks := t } := ⟨a.keep, a.size, a.gens, a.os⟩
theorem Mv.refl {own : List Addr} (s : Shared) : Mv own s s := (Gr.refl s).mv
/-- the tracked things are not among the cells of own -/
theorem okMv {P : Program} {w : World} {H : Hp} {own : List Addr} {s s' : Shared} (ok : HOk P w H s.heap) (a : Mv own s s') (hn : ∀ b ∈ own, H b = none) : HOk P w H s'.heap := fun b u e =>
  (ok b u e).stay (fun c v hc q => a.keep c v (fun hm => by
    rcases hc with rfl | hc
    · rw [hn _ hm] at e; cases e
    · rw [hn _ hm] at hc; cases hc) q) (fun _ q => q) fun _ _ q => q
theorem hereMv {K : PySem.W.Frag} {mg : Str → Option Value} {base : Heap} {own : List Addr} {s s' : Shared} (M : Here K mg base s.heap) (a : Mv own s s') (hn : ∀ b ∈ own, base.objs.size ≤ b) : Here K mg base s'.heap :=
  ⟨M.mod, fun b o e => a.keep b o (fun hm => Nat.lt_irrefl _ (Nat.lt_of_lt_of_le (Heap.lt_size e) (hn b hm))) (M.bk b o e)⟩

abbrev lO (its : Array Value) (c : Nat) : Obj := { cls := .type "list", dict := none, data := .seq its c, slots := #[] }
/-- the generator's frame at L between two turns -/
structure Stg (h : Heap) (L SN bk : Addr) (seen : List Str) (u : Value) : Prop where
  ns : ∃ m, h.Ns L m ∧ m "book" = some (.ref bk) ∧ m "seen" = some (.ref SN) ∧ m "here" = some u
  sn : ∃ its c, h.get? SN = some (lO its c) ∧ Vals (seen.map V.str) its.toList
  ne : SN ≠ L
theorem Stg.keep {h h' : Heap} {L SN bk : Addr} {seen : List Str} {u : Value} (a : Stg h L SN bk seen u) (k1 : ∀ o, h.get? L = some o → h'.get? L = some o) (k2 : ∀ o, h.get? SN = some o → h'.get? SN = some o) : Stg h' L SN bk seen u := by
  obtain ⟨⟨m, ⟨o, es, ep, e, r⟩, hm⟩, ⟨its, c, e2, r2⟩, ne⟩ := a
  exact ⟨⟨m, ⟨o, es, ep, k1 o e, r⟩, hm⟩, ⟨its, c, k2 _ e2, r2⟩, ne⟩
abbrev cEnv (L f : Addr) (cdv : Value) : Env := envOfC "chain" (defScope sChain) L f cdv

section
variable {P : Program} {w : World} {K : PySem.W.Frag} {mg : Str → Option Value} {base : Heap} {A : Around} {s : Shared} {C fG fH bk L f : Addr} {cdv : Value} {H : Hp} {lk : Lk} {m : Str → Option Value}
theorem nBS : ¬ (("book" : Str) = "seen") := by decide +kernel
theorem nBH : ¬ (("book" : Str) = "here") := by decide +kernel
theorem nHS : ¬ (("here" : Str) = "seen") := by decide +kernel
theorem nSH : ¬ (("seen" : Str) = "here") := by decide +kernel
abbrev cSt1 : Stmt := (defBody sChain).getD 0 (.Pass ⟨0, 0, 0, 0⟩)
/-- seen, here = [], book[key][0] -/
theorem piece1 {y k : Str} {t : Tok} {fb : Option Str} (T : BkT K mg C fG fH) (M : Here K mg base s.heap) (ok : HOk P w H s.heap) (B : BookF H C bk lk) (hroom : A.depth < recursionLimit) (hh : A.handled = none)
    (hn : s.heap.Ns L m) (hb : m "book" = some (.ref bk)) (hx : m "key" = some (.str y t)) (hab : base.objs.size ≤ L) (hlk : lk y = some (k, fb)) {E : Value → Shared → Prop} :
    wpAny (model P w) A (exec cSt1 (cEnv L f cdv)) (fun fl s' => fl = .next ∧ ∃ SN t', s.heap.objs.size ≤ SN ∧ Mv [L] s s' ∧ Stg s'.heap L SN bk [] (.str y t')) E s := by
  have hL : L < s.heap.objs.size := hn.lt
  show wpAny (model P w) A (exec (.Assign [.Tuple [.Name "seen" _, .Name "here" _] _ _] (.Tuple [.List [] _, .Subscript (.Subscript (.Name "book" _) (.Name "key" _) _) (.Constant (.int 0) _ _) _] _ _) _) (cEnv L f cdv)) _ _ _
  rw [exec_Assign_arm]
  refine wpAny_bind (wpAny_standAt ?_)
  refine wpAny_bind (wpAny_of_eq (a := false) (by rfl) ?_)
  rw [if_neg (by decide)]
  refine wpAny_bind (Tuple_ ?_)
  show wpAny _ _ (spliced ((false, eval (.List [] _) (cEnv L f cdv)) :: (false, eval (.Subscript (.Subscript (.Name "book" _) (.Name "key" _) _) (.Constant (.int 0) _ _) _) (cEnv L f cdv)) :: [])) _ _ s
  refine Calls.spliced_cons (wpAny_List_spliced (Calls.spliced_nil ⟨by show 0 ≤ sizeLine; exact Nat.zero_le _, ?_⟩))
  have k1' : Gr s { s with heap := s.heap.push { cls := .type "list", data := .seq ([] : List Value).toArray } } := ⟨fun b o e => Heap.get?_push_of_some _ e, by show _ ≤ (s.heap.push _).objs.size; rw [Heap.size_push]; exact Nat.le_succ _, rfl, rfl⟩
  have hn1 : (s.heap.push { cls := .type "list", data := .seq ([] : List Value).toArray }).Ns L m := by
    obtain ⟨o, es, ep, e, r⟩ := hn
    exact ⟨o, es, ep, Heap.get?_push_of_some _ e, r⟩
  have hS1 : (s.heap.push { cls := .type "list", data := .seq ([] : List Value).toArray }).get? s.heap.objs.size = some (lO #[] 0) := Heap.get?_push_size _ rfl
  refine Calls.spliced_cons (subField (i := 0) (z := .str y) (env := cEnv L f cdv) (m := m) T (M.keep k1'.keep) (ok.kept k1'.keep) B hroom hn1 hb hx hab hlk (by decide) (fun _ => rfl) fun u s2 G2 ru => ?_)
  obtain ⟨t2, rfl⟩ := (show ∃ t2, u = Value.str y t2 from ru)
  refine Calls.spliced_nil ?_
  refine wpAny_newObj_type ?_ (by show 2 ≤ sizeLine; decide)
  have G3 : Gr s { s2 with heap := s2.heap.push { cls := .type "tuple", data := .seq [Value.ref s.heap.objs.size, .str y t2].toArray } } :=
    (k1'.trans G2).trans ⟨fun b o e => Heap.get?_push_of_some _ e, by show _ ≤ (s2.heap.push _).objs.size; rw [Heap.size_push]; exact Nat.le_succ _, rfl, rfl⟩
  have hn3 : (s2.heap.push { cls := .type "tuple", data := .seq [Value.ref s.heap.objs.size, .str y t2].toArray }).Ns L m := by
    obtain ⟨o, es, ep, e, r⟩ := hn
    exact ⟨o, es, ep, G3.keep _ _ e, r⟩
  have hS3 : (s2.heap.push { cls := .type "tuple", data := .seq [Value.ref s.heap.objs.size, .str y t2].toArray }).get? s.heap.objs.size = some (lO #[] 0) := Heap.get?_push_of_some _ (G2.keep _ _ hS1)
  refine wpAny_bind (wpAny_of_eq (a := some [("seen" : Str), "here"]) (by rfl) ?_)
  show wpAny (model P w) A (do rule "assign.swapped-stores"; let items ← unpackItems (.ref s2.heap.objs.size) 2 none; assignInOrder [fun v => bindName (cEnv L f cdv) "here" v, fun v => bindName (cEnv L f cdv) "seen" v] items.reverse; pure Flow.next) _ _ _
  refine wpAny_bind (wpAny_rule (wpAny_bind (unpackItems_tuple (items := #[Value.ref s.heap.objs.size, .str y t2]) hh (IsTup.new s2.heap _) fun h' hx' => ?_)))
  have keep4 : ∀ b o, (s2.heap.push { cls := .type "tuple", data := .seq [Value.ref s.heap.objs.size, .str y t2].toArray }).get? b = some o → h'.get? b = some o := fun b o e => hx' b o (Nat.ne_of_lt (Heap.lt_size e)) e
  have size4 : s.heap.objs.size ≤ h'.objs.size := Nat.le_of_lt (Heap.lt_size (keep4 _ _ hS3))
  show wpAny (model P w) A (assignInOrder [fun v => bindName (cEnv L f cdv) "here" v, fun v => bindName (cEnv L f cdv) "seen" v] [.str y t2, .ref s.heap.objs.size] >>= fun _ => pure Flow.next) _ _ _
  have hn4 : h'.Ns L m := by
    obtain ⟨o, es, ep, e, r⟩ := hn3
    exact ⟨o, es, ep, keep4 _ _ e, r⟩
  refine wpAny_bind (assignInOrder_cons (wpAny_bindName (wpAny_storeName_local (env := cEnv L f cdv) (by rfl) hn4 fun h5 hn5 hs5 => ?_)))
  refine assignInOrder_cons (wpAny_bindName (wpAny_storeName_local (env := cEnv L f cdv) (s := { s2 with heap := h5, toks := s2.toks + 1 }) (by rfl) hn5 fun h6 hn6 hs6 => ?_))
  refine assignInOrder_nil (wpAny_pure ?_)
  have neSL : s.heap.objs.size ≠ L := Nat.ne_of_gt hL
  refine ⟨rfl, s.heap.objs.size, t2, Nat.le_refl _, ⟨fun b o hb e => ?_, ?_, G3.gens, G3.os⟩, ⟨⟨_, hn6, ?_, ?_, ?_⟩, ⟨#[], 0, ?_, .nil⟩, neSL⟩⟩
  · have nb : b ≠ L := fun z => hb (by rw [z]; exact List.mem_singleton.mpr rfl)
    show h6.get? b = some o
    rw [hs6.2 b nb, hs5.2 b nb]
    exact keep4 b o (G3.keep b o e)
  · show s.heap.objs.size ≤ h6.objs.size
    rw [hs6.1, hs5.1]
    exact size4
  · show (if ("book" : Str) = "seen" then some (Value.ref s.heap.objs.size) else if ("book" : Str) = "here" then some (Value.str y t2) else m "book") = some (.ref bk)
    rw [if_neg nBS, if_neg nBH, hb]
  · show (if ("seen" : Str) = "seen" then some (Value.ref s.heap.objs.size) else _) = _
    rw [if_pos rfl]
  · show (if ("here" : Str) = "seen" then some (Value.ref s.heap.objs.size) else if ("here" : Str) = "here" then some (Value.str y t2) else m "here") = some (.str y t2)
    rw [if_neg nHS, if_pos rfl]
  · show h6.get? s.heap.objs.size = some (lO #[] 0)
    rw [hs6.2 _ neSL, hs5.2 _ neSL]
    exact keep4 _ _ hS3

abbrev cWh : Stmt := (defBody sChain).getD 1 (.Pass ⟨0, 0, 0, 0⟩)
def whTest : Stmt → Expr
  | .While t _ _ _ => t
  | _ => .Constant .none 0 ⟨0, 0, 0, 0⟩
def whBody : Stmt → List Stmt
  | .While _ b _ _ => b
  | _ => []
abbrev cTest : Expr := whTest cWh
abbrev cBody : List Stmt := whBody cWh
/-- whether the chain goes on: an id, of an item, not seen -/
def goOn (lk : Lk) (seen : List Str) : Option Str → Bool
  | none => false
  | some x => (lk x).isSome && !decide (x ∈ seen)
theorem any_str (x : Str) : ∀ seen : List Str, (seen.map V.str).any (fun y => eqV y (.str x)) = decide (x ∈ seen)
  | [] => rfl
  | y :: r => by
    rw [List.map_cons, List.any_cons, any_str x r]
    by_cases e : y = x
    · subst e
      have h1 : eqV (.str y) (.str y) = true := by simp [eqV]
      rw [h1]
      simp
    · have h1 : eqV (.str y) (.str x) = false := by simp [eqV, e]
      rw [h1, Bool.false_or]
      have e' : ¬ x = y := fun z => e z.symm
      simp [e']
theorem flat_strs : ∀ seen : List Str, (seen.map V.str).all flatV = true
  | [] => rfl
  | _ :: r => by rw [List.map_cons, List.all_cons, flat_strs r]; rfl
/-- here in book and here not in seen -/
theorem piece2 {SN : Addr} {seen : List Str} {here : Option Str} {u : Value} (T : BkT K mg C fG fH) (M : Here K mg base s.heap) (ok : HOk P w H s.heap) (B : BookF H C bk lk) (hroom : A.depth < recursionLimit) (hu : A.units + 64 < cLine)
    (S : Stg s.heap L SN bk seen u) (ru : RelV (fbV here) u) (hab : base.objs.size ≤ L) {E : Value → Shared → Prop} {whole : Sem Value} :
    wpAny (model P w) A (isTrue cTest (cEnv L f cdv) whole) (fun b s' => b = goOn lk seen here ∧ Gr s s') E s := by
  obtain ⟨⟨m, hn, hb, hs, hh⟩, ⟨its, c, hS, rS⟩, ne⟩ := S
  obtain ⟨dx, di, fs, kvs, B, it⟩ := B
  obtain ⟨mA, O, r, _, _, _⟩ := ins_get ok B.ob
  obtain ⟨od, J, _⟩ := O.look
  show wpAny (model P w) A (isTrue (.BoolOp .And [.Compare (.Name "here" _) [.In] [.Name "book" _] _, .Compare (.Name "here" _) [.NotIn] [.Name "seen" _] _] _) (cEnv L f cdv) whole) _ _ s
  refine isTrue_and (wpAny_isTrue_Compare1 (ldE (env := cEnv L f cdv) hn hh (ldE (env := cEnv L f cdv) hn hb ?_)))
  refine PySem.W.in_K (K := K) (h₀ := base) (L := L) (m := m) (f := fH) ⟨hn, M.bk, hab⟩ M.mod.kin J T.gH T.iH ?_
  refine wpAny_call (codeAny_mono (has_call (b := match here with | none => false | some x => (lk x).isSome) (R := wants (fun r s' => wpAny (model P w) A (truthy r) (fun b => fun s'' => wpAny (model P w) A (truthy (.bool b)) (fun c s' => if c = true then wpAny (model P w) A (isTrue (.BoolOp .And [.Compare (.Name "here" _) [.NotIn] [.Name "seen" _] _] _) (cEnv L f cdv) whole) (fun b s' => b = goOn lk seen here ∧ Gr s s') E s' else false = goOn lk seen here ∧ Gr s s') E s'') E s') E) T M ok B hroom ?_ fun s' G => ?_) fun _ _ z => z)
  · cases here with
    | none => exact .inl ⟨ru, rfl⟩
    | some x =>
      obtain ⟨t, e⟩ := (show ∃ t, u = Value.str x t from ru)
      exact .inr ⟨x, t, e, (it.some x).symm⟩
  · show wpAny (model P w) A (truthy (.bool _)) _ E s'
    refine wpAny_truthy_bool (wpAny_truthy_bool ?_)
    cases here with
    | none => exact ⟨rfl, G⟩
    | some x =>
      obtain ⟨t, rfl⟩ := (show ∃ t, u = Value.str x t from ru)
      show if (lk x).isSome = true then _ else _
      cases el : (lk x).isSome with
      | false =>
        rw [if_neg Bool.false_ne_true]
        refine ⟨?_, G⟩
        show false = ((lk x).isSome && _)
        rw [el, Bool.false_and]
      | true =>
        rw [if_pos rfl]
        have hn' : s'.heap.Ns L m := by
          obtain ⟨o, es, ep, e, r⟩ := hn
          exact ⟨o, es, ep, G.keep _ _ e, r⟩
        refine isTrue_and (wpAny_isTrue_Compare1 (ldE (env := cEnv L f cdv) hn' hh (ldE (env := cEnv L f cdv) hn' hs ?_)))
        have pl : s'.heap.IsList SN its := ⟨_, G.keep _ _ hS, rfl, c, rfl⟩
        have rx : RelV (.str x) (.str x t) := ⟨t, rfl⟩
        refine SeqAt.notIn_listAt (eqU (.str x)) pl (fun w' hw => mem_eqAt rx rfl rS (flat_strs seen) w' (by simpa using hw)) ?_
        have ea : its.any (eqU (.str x)) = decide (x ∈ seen) := by
          rw [show its.any (eqU (.str x)) = its.toList.any (eqU (.str x)) by simp, any_eqU rS (flat_strs seen), any_str]
        rw [ea]
        refine wpAny_truthy_bool ?_
        have eg : goOn lk seen (some x) = !decide (x ∈ seen) := by
          show ((lk x).isSome && _) = _
          rw [el, Bool.true_and]
        cases ed : decide (x ∈ seen) with
        | true =>
          show false = goOn lk seen (some x) ∧ Gr s s'
          rw [eg, ed]
          exact ⟨rfl, G⟩
        | false =>
          refine isTrue_and_nil ?_
          rw [eg, ed]
          exact ⟨rfl, G⟩

abbrev cRest : List Stmt := cBody.drop 1
/-- seen.append(here); here = book[here][3] -/
theorem piece3 {SN : Addr} {seen : List Str} {x k : Str} {t : Tok} {fb : Option Str} (T : BkT K mg C fG fH) (M : Here K mg base s.heap) (ok : HOk P w H s.heap) (B : BookF H C bk lk) (hroom : A.depth < recursionLimit) (hL : H L = none) (hSN : H SN = none)
    (S : Stg s.heap L SN bk seen (.str x t)) (hab : base.objs.size ≤ L) (hab2 : base.objs.size ≤ SN) (hlk : lk x = some (k, fb)) (hsz : seen.length < 1000000) {E : Value → Shared → Prop} :
    wpAny (model P w) A (execs cRest (cEnv L f cdv)) (fun fl s' => fl = .next ∧ Mv [L, SN] s s' ∧ ∃ u, RelV (fbV fb) u ∧ Stg s'.heap L SN bk (seen ++ [x]) u) E s := by
  obtain ⟨⟨m, hn, hb, hs, hh⟩, ⟨its, c, hS, rS⟩, ne⟩ := S
  have el : its.size = seen.length := by
    have h1 := rS.length
    rw [List.length_map] at h1
    simpa using h1.symm
  show wpAny (model P w) A (execs [.Expr (.Call (.Attribute (.Name "seen" _) "append" _) [.Name "here" _] [] _) _, .Assign [.Name "here" _] (.Subscript (.Subscript (.Name "book" _) (.Name "here" _) _) (.Constant (.int 3) _ _) _) _] (cEnv L f cdv)) _ _ s
  refine wpAny_execs_cons (wpAny_Expr_any ?_ (by rfl) (by rfl))
  refine wpAny_Call_method_late (by rfl) (by rfl) (by rfl) rfl (ldE (env := cEnv L f cdv) hn hs ?_)
  refine ⟨"list", "list.append", PySem.F.plainAttrs_list, PySem.F.slot_list_append, PySem.F.type_list_append, ⟨_, hS, rfl⟩, fun a e => by cases e; exact ⟨_, hS, rfl⟩, ?_⟩
  refine Calls.callWith_builtin (by rfl) (Calls.evalArgs_plain ?_)
  show wpAny _ _ (spliced ((false, eval (.Name "here" _) (cEnv L f cdv)) :: [])) _ _ s
  refine Calls.spliced_cons (ldE (env := cEnv L f cdv) hn hh (Calls.spliced_nil ?_))
  have hz : its.size ≤ sizeLine := by rw [el, sizeLine_eq]; omega
  refine call_meets PySem.F.slot_list_append ⟨_, hS, rfl⟩ PySem.F.entry_list_append (PySem.F.args_list_append_2 _ _) (PySem.list_append SN its c (.str x t) hz) ⟨hS, ?_⟩
  obtain ⟨c', hS1⟩ : ∃ c', (s.heap.update SN (Obj.mapSeq fun z => z.push (.str x t))).get? SN = some (lO (its.push (.str x t)) c') := ⟨_, Heap.get?_update_self _ hS rfl⟩
  have keep1 : ∀ b, b ≠ SN → (s.heap.update SN (Obj.mapSeq fun z => z.push (.str x t))).get? b = s.heap.get? b := fun b hb => Heap.get?_update_other _ _ (Ne.symm hb)
  have V1 : ∀ tk, Mv [L, SN] s { s with heap := s.heap.update SN (Obj.mapSeq fun z => z.push (.str x t)), toks := tk } := fun tk =>
    ⟨fun b o nb e => by rw [keep1 b fun z => nb (by rw [z]; simp)]; exact e, by show _ ≤ (s.heap.update SN _).objs.size; rw [(Heap.SameBut.update ..).1]; exact Nat.le_refl _, rfl, rfl⟩
  have hn1 : (s.heap.update SN (Obj.mapSeq fun z => z.push (.str x t))).Ns L m := by
    obtain ⟨o, es, ep, e, r⟩ := hn
    exact ⟨o, es, ep, by rw [keep1 L (Ne.symm ne)]; exact e, r⟩
  have own0 : ∀ b ∈ [L, SN], H b = none := fun b hb => by
    rcases List.mem_cons.mp hb with rfl | hb
    · exact hL
    · rw [List.mem_singleton.mp hb]; exact hSN
  have own1 : ∀ b ∈ [L, SN], base.objs.size ≤ b := fun b hb => by
    rcases List.mem_cons.mp hb with rfl | hb
    · exact hab
    · rw [List.mem_singleton.mp hb]; exact hab2
  refine wpAny_execs_cons (wpAny_Assign_Name ?_ (by rfl))
  refine subField (i := 3) (z := fbV fb) (env := cEnv L f cdv) (m := m) (s := { s with heap := s.heap.update SN (Obj.mapSeq fun z => z.push (.str x t)), toks := _ }) T (hereMv M (V1 _) own1) (okMv ok (V1 _) own0) B hroom hn1 hb hh hab hlk (by decide) (fun _ => rfl) fun u s2 G2 ru => ?_
  have hn2 : s2.heap.Ns L m := by
    obtain ⟨o, es, ep, e, r⟩ := hn1
    exact ⟨o, es, ep, G2.keep _ _ e, r⟩
  refine wpAny_storeName_local (env := cEnv L f cdv) (by rfl) hn2 fun h3 hn3 hs3 => ?_
  refine wpAny_execs_nil ⟨rfl, ?_, u, ru, ⟨_, hn3, ?_, ?_, ?_⟩, ⟨its.push (.str x t), c', ?_, ?_⟩, ne⟩
  · refine ((V1 _).trans G2.mv).trans ⟨fun b o nb e => ?_, ?_, rfl, rfl⟩
    · show h3.get? b = some o
      rw [hs3.2 b fun z => nb (by rw [z]; exact List.mem_cons_self)]
      exact e
    · show _ ≤ h3.objs.size
      rw [hs3.1]
      exact Nat.le_refl _
  · show (if ("book" : Str) = "here" then some u else m "book") = some (.ref bk)
    rw [if_neg nBH, hb]
  · show (if ("seen" : Str) = "here" then some u else m "seen") = some (.ref SN)
    rw [if_neg nSH, hs]
  · show (if ("here" : Str) = "here" then some u else m "here") = some u
    rw [if_pos rfl]
  · show h3.get? SN = _
    rw [hs3.2 SN ne]
    exact G2.keep _ _ hS1
  · rw [Array.toList_push, List.map_append]
    exact rS.append (.cons ⟨t, rfl⟩ .nil)
end
end K39
/-! Gs -/
set_option maxHeartbeats 2000000
/-! the generator chain: its turns -/
namespace K39
open PySem PySem.Spec PyProof.Rows L2 GenW

/-- the chain as it goes on: what is seen, where it stands, what is left to be told -/
inductive Ch (lk : Lk) : List Str → Option Str → List Str → Prop where
  | stop {seen : List Str} {here : Option Str} : goOn lk seen here = false → Ch lk seen here []
  | go {seen : List Str} {x k : Str} {fb : Option Str} {ys : List Str} : goOn lk seen (some x) = true → lk x = some (k, fb) → Ch lk (seen ++ [x]) fb ys → Ch lk seen (some x) (x :: ys)

theorem Stg.inj {h : Heap} {L SN SN' bk : Addr} {seen seen' : List Str} {u u' : Value} (a : Stg h L SN bk seen u) (b : Stg h L SN' bk seen' u') : SN = SN' := by
  obtain ⟨⟨m, hn, _, hs, _⟩, _, _⟩ := a
  obtain ⟨⟨m', hn', _, hs', _⟩, _, _⟩ := b
  have e : m "seen" = m' "seen" := by
    obtain ⟨o, es, ep, ho, hd, hk, hm⟩ := hn
    obtain ⟨o', es', ep', ho', hd', hk', hm'⟩ := hn'
    rw [ho] at ho'
    cases ho'
    rw [hd] at hd'
    cases hd'
    first
      | exact (hm _).symm.trans (hm' _)
      | exact (hm "seen").symm.trans (hm' "seen")
  rw [hs, hs'] at e
  cases e
  rfl

section
variable (P : Program) (w : World) (K : PySem.W.Frag) (mg : Str → Option Value) (base : Heap) (C fG fH bk L : Addr) (lk : Lk) (full : List Str)
/-- what the generator leans on when it is woken -/
def Wo (SN : Addr) (s : Shared) : Prop := Here K mg base s.heap ∧ ∃ H, HOk P w H s.heap ∧ BookF H C bk lk ∧ H L = none ∧ H SN = none
/-- where its list of what was seen comes from: it stood in the frame when it was woken, or it is new -/
def Org (SN : Addr) (s₀ : Shared) : Prop := (∃ seen u, Stg s₀.heap L SN bk seen u) ∨ (s₀.heap.objs.size ≤ SN ∧ ∃ m, s₀.heap.Ns L m ∧ m "seen" = none)
/-- an id is told -/
def CY : Protocol := fun n s₀ v s kap => ∃ SN seen x ys t, full = seen ++ x :: ys ∧ n = ys.length ∧ v = .str x t ∧ Mv [L, SN] s₀ s ∧ Org bk L SN s₀ ∧ Stg s.heap L SN bk seen (.str x t) ∧ base.objs.size ≤ SN ∧
  ∀ s'', Wo P w K mg base C bk L lk SN s'' → Stg s''.heap L SN bk seen (.str x t) → kap (.send .none) s''
/-- the end -/
def CF : Nat → Shared → Shared → Prop := fun n s₀ s => n = 0 ∧ ∃ SN, Mv [L, SN] s₀ s ∧ Org bk L SN s₀
def CEnd : GenEnd := fun n s₀ r s => ((r = .ok (.ret .none) ∨ r = .ok .next) ∧ CF bk L n s₀ s) ∨ ∃ e, r = .error e ∧ False
end

section
variable {P : Program} {w : World} {K : PySem.W.Frag} {mg : Str → Option Value} {base : Heap} {A : Around} {C fG fH bk L f : Addr} {cdv : Value} {lk : Lk} {full : List Str}
theorem wo_mv {own : List Addr} {SN : Addr} {s s' : Shared} (h : Wo P w K mg base C bk L lk SN s) (g : Gr s s') : Wo P w K mg base C bk L lk SN s' := by
  obtain ⟨M, H, ok, B, h1, h2⟩ := h
  exact ⟨M.keep g.keep, H, ok.kept g.keep, B, h1, h2⟩
/-- the turns of the loop -/
theorem loop_seg (T : BkT K mg C fG fH) (hroom : A.depth + 1 < recursionLimit) (hu : A.units + 128 < cLine) (hab : base.objs.size ≤ L) (hlen : full.length < 1000000)
    {k : Result → Sem PySem.Fin} {l kp : List Value} {p : Pos}
    (hend : ∀ (s₀ s : Shared), CF bk L 0 s₀ s → Seg (model P w) A (CEnd bk L) (CY P w K mg base C bk L lk full) 0 s₀ (.func (defBody sChain) (cEnv L f cdv)) (k (.ok .next)) [] s) :
    ∀ (ys seen : List Str) (here : Option Str) (u : Value) (SN : Addr) (s₀ s : Shared), Ch lk seen here ys → full = seen ++ ys → Stg s.heap L SN bk seen u → RelV (fbV here) u → Wo P w K mg base C bk L lk SN s → Mv [L, SN] s₀ s → Org bk L SN s₀ → base.objs.size ≤ SN →
      Seg (model P w) A (CEnd bk L) (CY P w K mg base C bk L lk full) ys.length s₀ (.whileLoop cTest cBody [] (cEnv L f cdv)) ((model P w).den (.whileLoop cTest cBody [] (cEnv L f cdv)))
        [.ret k none false l (.func (defBody sChain) (cEnv L f cdv)) p kp] s := by
  have eo : A.over (.whileLoop cTest cBody [] (cEnv L f cdv)) [.ret k none false l (.func (defBody sChain) (cEnv L f cdv)) p kp] = A.deeper (cEnv L f cdv) := (over_loop rfl rfl).trans over_func
  have hr2 : (A.deeper (cEnv L f cdv)).depth < recursionLimit := hroom
  have hu2 : (A.deeper (cEnv L f cdv)).units + 64 < cLine := by
    show A.units + 3 + 64 < cLine
    omega
  intro ys
  induction ys with
  | nil =>
    intro seen here u SN s₀ s hc hf S ru W V O hb
    obtain ⟨M, H, ok, B, hL, hSN⟩ := id W
    refine seg_whileLoop ?_
    rw [eo]
    refine wpAny_mono (piece2 (A := A.deeper (cEnv L f cdv)) (E := fun _ _ => False) T M ok B hr2 hu2 S ru hab) (fun b s1 h1 => ?_) fun _ _ z => z.elim
    obtain ⟨e1, G1⟩ := h1
    have e2 : b = false := by
      cases hc with
      | stop z => rw [e1, z]
    rw [e2, if_neg Bool.false_ne_true]
    refine seg_execs_nil ?_
    exact seg_leaf (.ok .next) (hend s₀ s1 ⟨rfl, SN, V.trans G1.mv, O⟩)
  | cons x ys ih =>
    intro seen here u SN s₀ s hc hf S ru W V O hb
    obtain ⟨M, H, ok, B, hL, hSN⟩ := id W
    obtain ⟨kx, fb, rfl, hgo, hlk, hc'⟩ : ∃ kx fb, here = some x ∧ goOn lk seen (some x) = true ∧ lk x = some (kx, fb) ∧ Ch lk (seen ++ [x]) fb ys := by
      cases hc with
      | go a b c => exact ⟨_, _, rfl, a, b, c⟩
    obtain ⟨t, rfl⟩ := (show ∃ t, u = Value.str x t from ru)
    refine seg_whileLoop ?_
    rw [eo]
    refine wpAny_mono (piece2 (A := A.deeper (cEnv L f cdv)) (E := fun _ _ => False) T M ok B hr2 hu2 S ru hab) (fun b s1 h1 => ?_) fun _ _ z => z.elim
    obtain ⟨e1, G1⟩ := h1
    rw [e1, hgo, if_pos rfl]
    have S1 : Stg s1.heap L SN bk seen (.str x t) := S.keep (fun o e => G1.keep _ _ e) (fun o e => G1.keep _ _ e)
    obtain ⟨m, hn, hbk, hsn, hh⟩ := S1.ns
    show Seg _ _ _ _ (ys.length + 1) _ _ _ _ _
    refine seg_execs_cons ?_
    refine seg_Expr_Yield (by rfl) rfl (by rfl) ?_ (by rfl) (by rfl)
    rw [eo]
    refine ldE (env := cEnv L f cdv) hn hh ?_
    intro kap hk
    refine ⟨SN, seen, x, ys, t, hf, rfl, rfl, V.trans G1.mv, O, S1, hb, fun s2 W2 S2 => hk .none s2 ?_⟩
    obtain ⟨M2, H2, ok2, B2, hL2, hSN2⟩ := id W2
    refine seg_wrap ?_
    rw [eo]
    have hle : seen.length < 1000000 := by
      have := congrArg List.length hf
      rw [List.length_append] at this
      omega
    refine wpAny_mono (piece3 (A := A.deeper (cEnv L f cdv)) (E := fun _ _ => False) T M2 ok2 B2 hr2 hL2 hSN2 S2 hab hb hlk hle) (fun fl s3 h3 => ?_) fun _ _ z => z.elim
    obtain ⟨rfl, V3, u3, ru3, S3⟩ := h3
    refine seg_again rfl ?_
    have own0 : ∀ b ∈ [L, SN], H2 b = none := fun b hb' => by
      rcases List.mem_cons.mp hb' with rfl | hb'
      · exact hL2
      · rw [List.mem_singleton.mp hb']; exact hSN2
    have own1 : ∀ b ∈ [L, SN], base.objs.size ≤ b := fun b hb' => by
      rcases List.mem_cons.mp hb' with rfl | hb'
      · exact hab
      · rw [List.mem_singleton.mp hb']; exact hb
    refine ih (seen ++ [x]) fb u3 SN s2 s3 hc' (by rw [hf, List.append_assoc]; rfl) S3 ru3 ⟨hereMv M2 V3 own1, H2, okMv ok2 V3 own0, B2, hL2, hSN2⟩ V3 (.inl ⟨_, _, S2⟩) hb
/-- it begins -/
theorem gen_seg {y : Str} {t : Tok} {s : Shared} {m : Str → Option Value} (T : BkT K mg C fG fH) (hh : A.handled = none) (hroom : A.depth + 1 < recursionLimit) (hu : A.units + 128 < cLine) (hab : base.objs.size ≤ L) (hlen : full.length < 1000000)
    (hc : Ch lk [] (some y) full) (hy : (lk y).isSome = true) (hn : s.heap.Ns L m) (hb : m "book" = some (.ref bk)) (hk : m "key" = some (.str y t)) (hns : m "seen" = none) (W : Wo P w K mg base C bk L lk L s) :
    Seg (model P w) A (CEnd bk L) (CY P w K mg base C bk L lk full) full.length s (.func (defBody sChain) (cEnv L f cdv)) ((model P w).den (.func (defBody sChain) (cEnv L f cdv))) [] s := by
  obtain ⟨M, H, ok, B, hL, _⟩ := W
  have hr2 : (A.deeper (cEnv L f cdv)).depth < recursionLimit := hroom
  obtain ⟨k0, fb0, hlk⟩ : ∃ k fb, lk y = some (k, fb) := by
    cases e : lk y with
    | none => rw [e] at hy; cases hy
    | some z => exact ⟨z.1, z.2, rfl⟩
  refine seg_func ?_
  refine seg_execs_cons (st := cSt1) (rest := [cWh]) ?_
  refine seg_wrap ?_
  rw [over_func]
  refine wpAny_mono (piece1 (A := A.deeper (cEnv L f cdv)) (E := fun _ _ => False) T M ok B hr2 hh hn hb hk hab hlk) (fun fl s1 h1 => ?_) fun _ _ z => z.elim
  obtain ⟨rfl, SN, t1, hSN, V1, S1⟩ := h1
  have own1 : ∀ b ∈ [L], base.objs.size ≤ b := fun b hb' => by rw [List.mem_singleton.mp hb']; exact hab
  have own0 : ∀ b ∈ [L], H b = none := fun b hb' => by rw [List.mem_singleton.mp hb']; exact hL
  have nSN : H SN = none := ok.fresh hSN
  refine seg_execs_cons ?_
  refine seg_While fun p => ?_
  refine loop_seg T hroom hu hab hlen (fun s₀ s2 hF => ?_) full [] (some y) (.str y t1) SN s s1 hc rfl S1 ⟨t1, rfl⟩ ⟨hereMv M V1 own1, H, okMv ok V1 own0, B, hL, nSN⟩ (V1.mono fun b hb' => by rw [List.mem_singleton.mp hb']; exact List.mem_cons_self) (.inr ⟨hSN, m, hn, hns⟩) (Nat.le_trans hab (Nat.le_trans (Nat.le_of_lt hn.lt) hSN))
  exact seg_end (.ok (.ret .none)) (.inl ⟨.inl rfl, hF⟩)
end
end K39
/-! Nx -/
set_option maxHeartbeats 2000000
/-! waking a generator; how it sleeps again -/
namespace K39
open PySem PySem.Spec PyProof.Rows L2
open Sem (wp)

section
variable {M : Model}
theorem resumeS {A : Around} {R : GenEnd} {Y : Protocol} {n : Nat} {E : Value → Shared → Prop} {s : Shared} {g : Nat} {gs : GenState} {r : Resume} {l : List Value} {α : Type} {k : GenResult → Sem α} {Q : α → Shared → Prop} (hg : s.gens[g]? = some gs)
    (hgo : gs.Goes M A R Y n r (s.setGen g .running)) (hR : ∀ x s₁, R n (s.setGen g .running) x s₁ → wpAny M A (k (End.ret x).result) Q E (s₁.setGen g .finished))
    (hY : ∀ v s₁ k₀ l₀ c₀ p₀ fs₀, Y (n - 1) (s.setGen g .running) v s₁ (fun r' s'' => match n with | 0 => False | m + 1 => GenState.Goes M A R Y m (.suspended k₀ l₀ c₀ p₀ fs₀ false) r' s'') →
      wpAny M A (k (.yielded v)) Q E (s₁.setGen g (.suspended k₀ l₀ c₀ p₀ fs₀ false))) : wpAny M A (.resume g r l k) Q E s := by
  intro Γ p hΓ
  rw [Sem.wp_resume]
  have all : ∀ {e₁ : End} {s₁ : Shared}, SegEnd R Y n (Seg.next M A R Y n) (s.setGen g .running) e₁ s₁ → e₁.quiet = true ∧ wp M Γ (k e₁.result) (fun a _ s' => Q a s') (fun e _ s' => E e s') p (s₁.setGen g e₁.genState) := fun {e₁ s₁} he => by
    cases e₁ with
    | ret x => exact ⟨rfl, hR x s₁ he Γ p hΓ⟩
    | susp v g₀ l₀ k₀ c₀ p₀ fs₀ =>
      obtain ⟨hq, hy⟩ := he
      have hcl : (g₀ || fs₀.any Frame.guarded) = false := by
        cases z : (g₀ || fs₀.any Frame.guarded) with
        | false => rfl
        | true =>
          have q : (!(g₀ || fs₀.any Frame.guarded)) = true := hq
          rw [z] at q
          cases q
      have e1 : (End.susp v g₀ l₀ k₀ c₀ p₀ fs₀).genState = .suspended k₀ l₀ c₀ p₀ fs₀ false := by
        show GenState.suspended k₀ l₀ c₀ p₀ fs₀ (g₀ || fs₀.any Frame.guarded) = _
        rw [hcl]
      refine ⟨hq, ?_⟩
      rw [e1]
      refine hY v s₁ k₀ l₀ c₀ p₀ fs₀ ?_ Γ p hΓ
      cases n with
      | zero => exact hy
      | succ m => exact hy
  cases gs with
  | fresh c =>
    obtain ⟨rfl, hs⟩ := hgo
    obtain ⟨e₁, s₁, hr, he⟩ := seg_iff.mp hs (Γ.wake c p) p rfl (hΓ.wake c p)
    obtain ⟨h1, h2⟩ := all he
    exact ⟨_, _, by unfold Wakes; rw [hg]; exact ⟨e₁, s₁, hr, h1, rfl, rfl⟩, h2⟩
  | suspended k₀ l₀ c₀ p₀ fs₀ cl =>
    obtain ⟨e₁, s₁, hr, he⟩ := seg_iff.mp hgo (Γ.wake c₀ p) p₀ rfl (hΓ.wake c₀ p)
    obtain ⟨h1, h2⟩ := all he
    exact ⟨_, _, by unfold Wakes; rw [hg]; exact ⟨e₁, s₁, hr, h1, rfl, rfl⟩, h2⟩
  | running => exact hgo.elim
  | finished => exact hgo.elim
end

section
variable {P : Program} {w : World} {A : Around} {E : Value → Shared → Prop} {s : Shared}
/-- the state holds a StopIteration at e -/
def IsStop (e : Value) (h : Heap) : Prop := ∃ a o, e = .ref a ∧ h.get? a = some o ∧ o.cls = .type "StopIteration"
/-- the next value of what stands at a: told, the end, an error -/
def NextOk (P : Program) (w : World) (A : Around) (a : Addr) (Q : Option Value → Shared → Prop) (E : Value → Shared → Prop) (s : Shared) : Prop :=
  wpAny (model P w) A (callSpecial? (.ref a) "__next__") (fun r s' => ∃ v, r = some v ∧ Q (some v) s') (fun e s' => (IsStop e s'.heap ∧ Q none s') ∨ (NotStop (model P w) e s'.heap ∧ E e s')) s
theorem NextOk.pyNext {a : Addr} {Q : Option Value → Shared → Prop} (h : NextOk P w A a Q E s) : wpAny (model P w) A (pyNext (.ref a)) Q E s := by
  unfold PySem.pyNext
  refine wpAny_bind (wpAny_attempt (wpAny_mono h (fun r s' h1 => ?_) fun e s' h1 => ?_))
  · obtain ⟨v, rfl, hq⟩ := h1
    exact wpAny_pure hq
  · rcases h1 with ⟨⟨b, o, rfl, ho, hc⟩, hq⟩ | ⟨hn, hq⟩
    · refine wpAny_bind (wpAny_isInstance (T := "StopIteration") (b := true) ⟨o, ho, hc⟩ isSubtype_stop ?_)
      exact wpAny_pure hq
    · refine wpAny_bind (hn _ _ _ _ rfl ?_)
      rw [if_neg Bool.false_ne_true]
      exact wpAny_throw hq
theorem NextOk.nextOf {a : Addr} {Q : Option Value → Shared → Prop} (h : NextOk P w A a Q E s) :
    wpAny (model P w) A (Builtin.SmallTypes.nextOf (.ref a)) (fun v s' => Q (some v) s') (fun e s' => (IsStop e s'.heap ∧ Q none s') ∨ (NotStop (model P w) e s'.heap ∧ E e s')) s := by
  unfold Builtin.SmallTypes.nextOf
  refine wpAny_bind (wpAny_mono h (fun r s' h1 => ?_) fun e s' h1 => h1)
  obtain ⟨v, rfl, hq⟩ := h1
  exact wpAny_pure hq
theorem NextOk.mono {a : Addr} {Q Q' : Option Value → Shared → Prop} {E' : Value → Shared → Prop} (h : NextOk P w A a Q E s) (hQ : ∀ r s', Q r s' → Q' r s') (hE : ∀ e s', E e s' → E' e s') : NextOk P w A a Q' E' s :=
  wpAny_mono h (fun r s' ⟨v, e, q⟩ => ⟨v, e, hQ _ _ q⟩) fun e s' q => q.imp (fun z => ⟨z.1, hQ _ _ z.2⟩) fun z => ⟨z.1, hE _ _ z.2⟩
/-- the next value of a generator: told, at its end, or an error goes out -/
theorem nextS {a : Addr} {g n : Nat} {gs : GenState} {F : Nat → Shared → Shared → Prop} {Er : Value → Shared → Prop} {Y : Protocol} {Q : Option Value → Shared → Prop} (hh : A.handled = none)
    (hl : s.heap.NoLimit) (hroom : A.depth < recursionLimit) (hg : s.heap.IsGen a g) (hgs : s.gens[g]? = some gs)
    (hgo : gs.Goes (model P w) A.in1 (fun n s₀ r s₁ => ((r = .ok (.ret .none) ∨ r = .ok .next) ∧ F n s₀ s₁) ∨ ∃ e, r = .error e ∧ Er e s₁) Y n (.send .none) (s.setGen g .running))
    (hY : ∀ v s₁ k₀ l₀ c₀ p₀ fs₀, Y (n - 1) (s.setGen g .running) v s₁ (fun r' s'' => match n with
        | 0 => False
        | m + 1 => GenState.Goes (model P w) A.in1 (fun n s₀ r s₁ => ((r = .ok (.ret .none) ∨ r = .ok .next) ∧ F n s₀ s₁) ∨ ∃ e, r = .error e ∧ Er e s₁) Y m (.suspended k₀ l₀ c₀ p₀ fs₀ false) r' s'') → Q (some v) (s₁.setGen g (.suspended k₀ l₀ c₀ p₀ fs₀ false)))
    (hP : ∀ s₁, F n (s.setGen g .running) s₁ → ∀ h', (∀ b o, s₁.heap.get? b = some o → h'.get? b = some o) → s₁.heap.objs.size ≤ h'.objs.size → Q none { s₁.setGen g .finished with heap := h' })
    (hE : ∀ e s₁, Er e s₁ → s₁.heap.IsGen a g ∧ NotStop (model P w) e s₁.heap ∧ E e (s₁.setGen g .finished)) : NextOk P w A a Q E s := by
  unfold NextOk
  refine wpAny_callSpecial?_slot (name := Str.ofString "__next__") hg.typeIs slot_gen_next
    (wpAny_call_entry slot_gen_next hg.typeIs entry_gen_next ?_ (args_gen_next _))
  show wpAny _ A.in1 (Builtin.Generator.genWake (.ref a) (.send .none)) _ _ s
  unfold Builtin.Generator.genWake
  refine wpAny_bind (wpAny_holding (wpAny_genNumber hg (wpAny_bind (wpAny_genState hgs ?_))))
  cases gs with
  | running => exact hgo.elim
  | finished => exact hgo.elim
  | _ =>
    refine wpAny_bind (wpAny_roomToWake hl hroom ?_)
    show wpAny _ A.in1 (.resume g (.send .none) [] _) _ _ s
    refine resumeS hgs hgo (fun x s₁ hx => ?_) (fun v s₁ k₀ l₀ c₀ p₀ fs₀ hv => ?_)
    · rcases hx with ⟨hr, hp⟩ | ⟨e, rfl, he⟩
      · have hres : End.result (.ret x) = .returned .none := by
          rcases hr with hr | hr <;> rw [hr] <;> rfl
        first | rw [hres] | simp only [hres]
        show wpAny _ A.in1 (newExc (.type "StopIteration") [] >>= _) _ _ _
        refine wpAny_bind ?_
        simp only [newExc, newTuple]
        refine wpAny_bind (wpAny_newObj_type ?_ (by size_fits))
        refine wpAny_bind (m := firstArgMember _ _) (wpAny_of_eq (a := Value.none) (by first | rfl | (simp only [firstArgMember]; rfl)) ?_)
        refine wpAny_newObj_type ?_ (by size_fits)
        simp only [raiseNew]
        refine wpAny_bind (wpAny_bind (wpAny_handled ?_))
        first | rw [show A.in1.handled = none from hh] | rw [hh]
        refine wpAny_throw ?_
        exact .inl ⟨⟨_, _, rfl, Heap.get?_push_size _ rfl, rfl⟩, hP s₁ hp _ (fun b o hb => Heap.get?_push_of_some _ (Heap.get?_push_of_some _ hb)) (by show _ ≤ ((s₁.heap.push _).push _).objs.size; rw [Heap.size_push, Heap.size_push]; omega)⟩
      · obtain ⟨hg1, hns, hq⟩ := hE e s₁ he
        obtain ⟨o, nm, qn, ho, hc, hd, hsl⟩ := hg1
        show wpAny _ A.in1 (Builtin.Generator.genLeft (.ref a) e) _ _ _
        unfold Builtin.Generator.genLeft Builtin.Generator.madeByALambda
        refine wpAny_bind (wpAny_bind (wpAny_load (o := o) ho (wpAny_pure ?_)))
        refine wpAny_bind (hns _ _ _ _ rfl ?_)
        rw [Bool.and_false, if_neg Bool.false_ne_true]
        unfold Builtin.Generator.genEscaped
        first
          | refine wpAny_bind (hns _ _ _ _ rfl ?_)
          | refine wpAny_bind (wpAny_pure (wpAny_bind (hns _ _ _ _ rfl ?_)))
        rw [if_pos (show (!false) = true from rfl)]
        first
          | refine wpAny_throw ?_
          | refine wpAny_bind (wpAny_throw ?_)
        exact .inr ⟨hns, hq⟩
    · exact wpAny_pure ⟨v, rfl, ⟨v, rfl, (hY v s₁ k₀ l₀ c₀ p₀ fs₀ hv)⟩⟩
end
end K39
/-! Cn -/
set_option maxHeartbeats 2000000
/-! the generator chain asleep, and its next value -/
namespace K39
open PySem PySem.Spec PyProof.Rows L2

/-- the generator g has turned: its own cells, nothing else -/
structure MvG (g : Nat) (own : List Addr) (s s' : Shared) : Prop where
  keep : ∀ b o, b ∉ own → s.heap.get? b = some o → s'.heap.get? b = some o
  size : s.heap.objs.size ≤ s'.heap.objs.size
  os : s'.os = s.os
  gens : ∀ i, i ≠ g → s'.gens[i]? = s.gens[i]?
  bare : AllBare s.gens → AllBare s'.gens
theorem setGen_ne {s : Shared} {g i : Nat} {x : GenState} (h : i ≠ g) : (s.setGen g x).gens[i]? = s.gens[i]? := by
  show (s.gens.setIfInBounds g x)[i]? = _
  rw [Array.getElem?_setIfInBounds_ne (Ne.symm h)]
theorem Mv.turned {g : Nat} {own : List Addr} {s s₁ : Shared} {st : GenState} (V : Mv own (s.setGen g .running) s₁) (hb : st.bare = true) {h' : Heap} (hk : ∀ b o, s₁.heap.get? b = some o → h'.get? b = some o) (hz : s₁.heap.objs.size ≤ h'.objs.size) :
    MvG g own s { s₁.setGen g st with heap := h' } where
  keep := fun b o n e => hk b o (V.keep b o n e)
  size := Nat.le_trans V.size hz
  os := V.os
  gens := fun i hi => by
    show (s₁.setGen g st).gens[i]? = _
    rw [setGen_ne hi, V.gens, setGen_ne hi]
  bare := fun h => by
    have h1 : AllBare (s.setGen g .running).gens := allBare_setGen h rfl
    rw [← V.gens] at h1
    exact allBare_setGen h1 hb

section
variable (P : Program) (w : World) (K : PySem.W.Frag) (mg : Str → Option Value) (base : Heap) (C bk L : Addr) (lk : Lk) (full : List Str) (a : Addr) (g : Nat)
/-- it has not begun -/
def SlpF (s : Shared) : Prop := s.heap.IsGen a g ∧ (∃ f cdv, s.gens[g]? = some (.fresh (.func (defBody sChain) (cEnv L f cdv)))) ∧ base.objs.size ≤ L ∧
  ∃ m y t, s.heap.Ns L m ∧ m "book" = some (.ref bk) ∧ m "key" = some (.str y t) ∧ m "seen" = none ∧ Ch lk [] (some y) full ∧ (lk y).isSome = true
/-- it sleeps, rem is left -/
def SlpS (A0 : Around) (SN : Addr) (rem : List Str) (s : Shared) : Prop := s.heap.IsGen a g ∧ base.objs.size ≤ SN ∧ ∃ k l c p fs seen x t, s.gens[g]? = some (.suspended k l c p fs false) ∧ full = seen ++ x :: rem ∧ Stg s.heap L SN bk seen (.str x t) ∧
  ∀ s'', Wo P w K mg base C bk L lk SN s'' → Stg s''.heap L SN bk seen (.str x t) → GenState.Goes (model P w) A0.in1 (CEnd bk L) (CY P w K mg base C bk L lk full) rem.length (.suspended k l c p fs false) (.send .none) s''
end

section
variable {P : Program} {w : World} {K : PySem.W.Frag} {mg : Str → Option Value} {base : Heap} {A0 : Around} {C fG fH bk L : Addr} {lk : Lk} {full : List Str} {a : Addr} {g : Nat} {s : Shared} {E : Value → Shared → Prop} {Q : Option Value → Shared → Prop}
theorem ch_some {y : Str} (h : Ch lk [] (some y) full) (hy : (lk y).isSome = true) : ∃ ys, full = y :: ys := by
  cases h with
  | stop z =>
    have q : ((lk y).isSome && !decide (y ∈ ([] : List Str))) = false := z
    rw [hy] at q
    simp at q
  | go _ _ _ => exact ⟨_, rfl⟩
theorem ns_inj {h : Heap} {L : Addr} {m m' : Str → Option Value} (hn : h.Ns L m) (hn' : h.Ns L m') (x : Str) : m x = m' x := by
  obtain ⟨o, es, ep, ho, hd, hk, hm⟩ := hn
  obtain ⟨o', es', ep', ho', hd', hk', hm'⟩ := hn'
  rw [ho] at ho'
  cases ho'
  rw [hd] at hd'
  cases hd'
  exact (hm x).symm.trans (hm' x)
theorem isGen_keep {h h' : Heap} (hg : h.IsGen a g) (k : ∀ o, h.get? a = some o → h'.get? a = some o) : h'.IsGen a g := by
  obtain ⟨o, nm, qn, ho, r⟩ := hg
  exact ⟨o, nm, qn, k o ho, r⟩
/-- the first value -/
theorem next_fresh (T : BkT K mg C fG fH) (hh : A0.handled = none) (hroom : A0.depth + 1 < recursionLimit) (hu : A0.units + 129 < cLine) (hlen : full.length < 1000000) (F : SlpF base bk L lk full a g s) (haL : a ≠ L) (W : Wo P w K mg base C bk L lk L s)
    (hQ : ∀ x ys t SN s', full = x :: ys → s.heap.objs.size ≤ SN → MvG g [L] s s' → SlpS P w K mg base C bk L lk full a g A0 SN ys s' → Q (some (.str x t)) s') : NextOk P w A0 a Q E s := by
  obtain ⟨hg, ⟨f, cdv, hgs⟩, hab, m, y, t, hn, hb, hk, hns, hc, hy⟩ := F
  obtain ⟨ys, rfl⟩ := ch_some hc hy
  have hlim : s.heap.NoLimit := W.1.lim
  have hgl : g < s.gens.size := (Array.getElem?_eq_some_iff.mp hgs).1
  refine nextS (F := CF bk L) (Er := fun _ _ => False) (n := (y :: ys).length) hh hlim (by omega) hg hgs ⟨rfl, ?_⟩ (Y := CY P w K mg base C bk L lk (y :: ys)) (fun v s₁ k₀ l₀ c₀ p₀ fs₀ hv => ?_) (fun s₁ hp h' hk' hz' => ?_) fun _ _ z => z.elim
  · exact gen_seg (A := A0.in1) (s := s.setGen g .running) T hh hroom (by show A0.units + 1 + 128 < cLine; omega) hab hlen hc hy hn hb hk hns W
  · obtain ⟨SN, seen, x, zs, t', hf, hn', rfl, V, O, S, hb', hkap⟩ := hv
    have e1 : seen = [] := by
      have h1 := congrArg List.length hf
      have h2 : ys.length = zs.length := hn'
      rw [List.length_append, List.length_cons, List.length_cons] at h1
      exact List.length_eq_zero_iff.mp (by omega)
    subst e1
    have hSN : s.heap.objs.size ≤ SN := by
      rcases O with ⟨sn, u, St⟩ | O
      · exfalso
        obtain ⟨⟨m', hn2, _, hs2, _⟩, _, _⟩ := St
        have e := ns_inj hn hn2 "seen"
        rw [hns, hs2] at e
        cases e
      · exact O.1
    have hf' : y :: ys = x :: zs := hf
    have e3 : ys = zs := (List.cons.inj hf').2
    subst e3
    have keepL : ∀ b o, b ≠ L → s.heap.get? b = some o → s₁.heap.get? b = some o := fun b o hbL e => V.keep b o (fun hm => by
      rcases List.mem_cons.mp hm with z | z
      · exact hbL z
      · rw [List.mem_singleton.mp z] at e
        exact absurd (Nat.lt_of_lt_of_le (Heap.lt_size e) hSN) (Nat.lt_irrefl _)) e
    have V2 : Mv [L] (s.setGen g .running) s₁ := ⟨fun b o nb e => keepL b o (fun z => nb (by rw [z]; exact List.mem_singleton.mpr rfl)) e, V.size, V.gens, V.os⟩
    refine hQ x ys t' SN _ hf' hSN (V2.turned rfl (fun _ _ e => e) (Nat.le_refl _)) ⟨isGen_keep hg fun o e => keepL a o haL e, hb', k₀, l₀, c₀, p₀, fs₀, [], x, t', ?_, hf', S, fun s'' W'' S'' => hkap s'' W'' S''⟩
    refine setGen_at ?_
    rw [V.gens]
    show g < (s.setGen g .running).gens.size
    rw [GenW.setGen_size]
    exact hgl
  · obtain ⟨z, _⟩ := hp
    cases z
theorem org_same {SN SN' : Addr} {s : Shared} {seen : List Str} {u : Value} (O : Org bk L SN' (s.setGen g .running)) (S : Stg s.heap L SN bk seen u) : SN' = SN := by
  rcases O with ⟨sn, u', St⟩ | ⟨_, m, hn, hs⟩
  · exact Stg.inj (h := s.heap) St S
  · obtain ⟨⟨m0, hn0, _, hs0, _⟩, _, _⟩ := S
    have e := ns_inj (h := s.heap) hn hn0 "seen"
    rw [hs, hs0] at e
    cases e
theorem wo_mvG {SN : Addr} {s s₁ : Shared} (W : Wo P w K mg base C bk L lk SN s) (V : Mv [L, SN] (s.setGen g .running) s₁) (hab : base.objs.size ≤ L) (hb : base.objs.size ≤ SN) : Wo P w K mg base C bk L lk SN s₁ := by
  obtain ⟨M, H, ok, B, h1, h2⟩ := W
  have own1 : ∀ b ∈ [L, SN], base.objs.size ≤ b := fun b hm => by
    rcases List.mem_cons.mp hm with z | z
    · rw [z]; exact hab
    · rw [List.mem_singleton.mp z]; exact hb
  have own0 : ∀ b ∈ [L, SN], H b = none := fun b hm => by
    rcases List.mem_cons.mp hm with z | z
    · rw [z]; exact h1
    · rw [List.mem_singleton.mp z]; exact h2
  exact ⟨hereMv (s := s.setGen g .running) M V own1, H, okMv (s := s.setGen g .running) ok V own0, B, h1, h2⟩
/-- the next one -/
theorem next_more {SN : Addr} {x : Str} {ys : List Str} (hh : A0.handled = none) (hroom : A0.depth < recursionLimit) (F : SlpS P w K mg base C bk L lk full a g A0 SN (x :: ys) s) (haL : a ≠ L) (haS : a ≠ SN) (W : Wo P w K mg base C bk L lk SN s)
    (hQ : ∀ t s', MvG g [L, SN] s s' → SlpS P w K mg base C bk L lk full a g A0 SN ys s' → Q (some (.str x t)) s') : NextOk P w A0 a Q E s := by
  obtain ⟨hg, hb, k, l, c, p, fs, seen, x0, t0, hgs, hf, S, hgo⟩ := F
  have hgl : g < s.gens.size := (Array.getElem?_eq_some_iff.mp hgs).1
  refine nextS (F := CF bk L) (Er := fun _ _ => False) (n := (x :: ys).length) hh W.1.lim hroom hg hgs (hgo (s.setGen g .running) W S) (Y := CY P w K mg base C bk L lk full) (fun v s₁ k₀ l₀ c₀ p₀ fs₀ hv => ?_) (fun s₁ hp h' hk' hz' => ?_) fun _ _ z => z.elim
  · obtain ⟨SN', seen', x', zs, t', hf', hn', rfl, V, O, S', hb', hkap⟩ := hv
    have eS : SN' = SN := org_same O S
    subst eS
    have hl : (x' :: zs).length = (x :: ys).length := by
      have h2 : ys.length = zs.length := hn'
      rw [List.length_cons, List.length_cons, h2]
    have hf2 : (seen ++ [x0]) ++ (x :: ys) = seen' ++ (x' :: zs) := by
      rw [← hf', hf, List.append_assoc]
      rfl
    obtain ⟨e1, e2⟩ := List.append_inj' hf2 hl.symm
    cases e2
    refine hQ t' _ (V.turned rfl (fun _ _ e => e) (Nat.le_refl _)) ⟨isGen_keep hg fun o e => V.keep a o (fun hm => ?_) e, hb', k₀, l₀, c₀, p₀, fs₀, seen', x, t', ?_, hf', S', fun s'' W'' S'' => hkap s'' W'' S''⟩
    · rcases List.mem_cons.mp hm with z | z
      · exact haL z
      · exact haS (List.mem_singleton.mp z)
    · refine setGen_at ?_
      rw [V.gens]
      show g < (s.setGen g .running).gens.size
      rw [GenW.setGen_size]
      exact hgl
  · obtain ⟨z, _⟩ := hp
    cases z
/-- none is left -/
theorem next_done {SN : Addr} (hh : A0.handled = none) (hroom : A0.depth < recursionLimit) (hab : base.objs.size ≤ L) (F : SlpS P w K mg base C bk L lk full a g A0 SN [] s) (W : Wo P w K mg base C bk L lk SN s)
    (hQ : ∀ s', MvG g [L, SN] s s' → Q none s') : NextOk P w A0 a Q E s := by
  obtain ⟨hg, hb, k, l, c, p, fs, seen, x0, t0, hgs, hf, S, hgo⟩ := F
  refine nextS (F := CF bk L) (Er := fun _ _ => False) (n := ([] : List Str).length) hh W.1.lim hroom hg hgs (hgo (s.setGen g .running) W S) (Y := CY P w K mg base C bk L lk full) (fun v s₁ k₀ l₀ c₀ p₀ fs₀ hv => ?_) (fun s₁ hp h' hk' hz' => ?_) fun _ _ z => z.elim
  · obtain ⟨SN', seen', x', zs, t', hf', hn', rfl, V, O, S', hb', hkap⟩ := hv
    have eS : SN' = SN := org_same O S
    subst eS
    exact (hkap s₁ (wo_mvG W V hab hb') S').elim
  · obtain ⟨_, SN', V, O⟩ := hp
    have eS : SN' = SN := org_same O S
    subst eS
    exact hQ _ (V.turned rfl hk' hz')
end
end K39
/-! Tu -/
set_option maxHeartbeats 2000000
/-! the sleeping generator within the layer: one turn -/
namespace K39
open PySem PySem.Spec PyProof.Rows L2 GenW

theorem MvG.mono {g : Nat} {own own' : List Addr} {s s' : Shared} (V : MvG g own s s') (h : ∀ b ∈ own, b ∈ own') : MvG g own' s s' :=
  ⟨fun b o n e => V.keep b o (fun z => n (h b z)) e, V.size, V.os, V.gens, V.bare⟩
section
variable {X : Cx} {pins : List (Addr × Obj)} {σ : L2.St} {H : Hp} {s s' : Shared}
/-- untracked cells of ours have turned, and a generator -/
theorem inv_moved {g : Nat} {own : List Addr} (I : Inv X pins σ H s) (V : MvG g own s s') (hf : ∀ b ∈ own, FpOk X pins H b) : Inv X pins σ H s' := by
  obtain ⟨h', g', d', t', o'⟩ := s'
  have eo : o' = s.os := V.os
  subst eo
  have kp : ∀ b o, b ∉ own → s.heap.get? b = some o → h'.get? b = some o := V.keep
  refine I.step (g' := g') (d' := d') (ch := own) (fun b hb => ?_) (fun b o _ _ hc e _ => kp b o hc e) (fun b o _ _ hc e _ => ⟨o.slots, kp b o hc e⟩) (fun _ _ _ _ n => n)
    (fun b o hc e => ⟨o, kp b o hc e⟩) (fun _ _ e => e) (fun _ _ _ e => e) (fun b ps e => ⟨#[], by rw [e]; simp⟩) (fun m hm => ?_) (fun b u e => ?_) (V.bare I.bare)
  · obtain ⟨_, f1, _, f3, f4, f5⟩ := hf b hb
    exact ⟨f3, f1, f4, f5⟩
  · obtain ⟨o, es, ep, ho, r⟩ := hm
    exact ⟨o, es, ep, kp _ o (fun z => (hf _ z).2.1 rfl) ho, r⟩
  · refine (I.hok b u e).stay (fun c v hc q => kp c v (fun z => ?_) q) (fun _ q => q) fun _ _ q => q
    have n := (hf c z).1
    rcases hc with y | y
    · rw [y, e] at n; cases n
    · rw [n] at y; cases y
end

section
variable (P : Program) (w : World) (K : PySem.W.Frag) (mg : Str → Option Value) (base : Heap) (C bk L : Addr) (lk : Lk) (full : List Str) (a : Addr) (g : Nat)
/-- it sleeps; its cells; what is left -/
def Slp (A0 : Around) (fp : List Addr) (rem : List Str) (s : Shared) : Prop := a ≠ L ∧ base.objs.size ≤ L ∧
  ((fp = [a, L] ∧ rem = full ∧ SlpF base bk L lk full a g s) ∨ ∃ SN, fp = [a, L, SN] ∧ a ≠ SN ∧ SlpS P w K mg base C bk L lk full a g A0 SN rem s)
end
section
variable {P : Program} {w : World} {K : PySem.W.Frag} {mg : Str → Option Value} {base : Heap} {A0 : Around} {C fG fH bk L : Addr} {lk : Lk} {full rem : List Str} {a : Addr} {g : Nat} {fp : List Addr} {s s' : Shared}
theorem ns_at {h h' : Heap} {m : Str → Option Value} (hn : h.Ns L m) (k : ∀ o, h.get? L = some o → h'.get? L = some o) : h'.Ns L m := by
  obtain ⟨o, es, ep, ho, r⟩ := hn
  exact ⟨o, es, ep, k o ho, r⟩
theorem Slp.keep (S : Slp P w K mg base C bk L lk full a g A0 fp rem s) (k : ∀ b ∈ fp, ∀ o, s.heap.get? b = some o → s'.heap.get? b = some o) (hg : s'.gens[g]? = s.gens[g]?) : Slp P w K mg base C bk L lk full a g A0 fp rem s' := by
  obtain ⟨n, hb, ⟨e, er, S⟩ | ⟨SN, e, n2, S⟩⟩ := S
  · subst e
    refine ⟨n, hb, .inl ⟨rfl, er, ?_⟩⟩
    obtain ⟨h1, ⟨f, cdv, h2⟩, h3, m, y, t, h4, h5⟩ := S
    exact ⟨isGen_keep h1 fun o e => k a (by simp) o e, ⟨f, cdv, by rw [hg]; exact h2⟩, h3, m, y, t, ns_at h4 fun o e => k L (by simp) o e, h5⟩
  · subst e
    refine ⟨n, hb, .inr ⟨SN, rfl, n2, ?_⟩⟩
    obtain ⟨h1, h2, kk, l, c, p, fs, seen, x, t, h3, h4, h5, h6⟩ := S
    exact ⟨isGen_keep h1 fun o e => k a (by simp) o e, h2, kk, l, c, p, fs, seen, x, t, by rw [hg]; exact h3, h4, h5.keep (fun o e => k L (by simp) o e) fun o e => k SN (by simp) o e, h6⟩
theorem Slp.mem (S : Slp P w K mg base C bk L lk full a g A0 fp rem s) : a ∈ fp := by
  obtain ⟨n, hb, ⟨e, er, S⟩ | ⟨SN, e, n2, S⟩⟩ := S <;> rw [e] <;> exact List.mem_cons_self
theorem Slp.gen (S : Slp P w K mg base C bk L lk full a g A0 fp rem s) : s.heap.IsGen a g := by
  obtain ⟨n, hb, ⟨e, er, S⟩ | ⟨SN, e, n2, S⟩⟩ := S
  · exact S.1
  · exact S.1
theorem Slp.at (S : Slp P w K mg base C bk L lk full a g A0 fp rem s) : ∃ st, s.gens[g]? = some st ∧ st.bare = true := by
  obtain ⟨n, hb, ⟨e, er, S⟩ | ⟨SN, e, n2, S⟩⟩ := S
  · obtain ⟨_, ⟨f, cdv, h2⟩, _⟩ := S
    exact ⟨_, h2, rfl⟩
  · obtain ⟨h1, h2, kk, l, c, p, fs, seen, x, t, h3, _⟩ := S
    exact ⟨_, h3, rfl⟩
theorem Slp.obj (S : Slp P w K mg base C bk L lk full a g A0 fp rem s) : ∀ b ∈ fp, ∃ o, s.heap.get? b = some o ∧ ∀ v, o.data ≠ .cell v := by
  have hgen : ∀ {h : Heap}, h.IsGen a g → ∃ o, h.get? a = some o ∧ ∀ v, o.data ≠ .cell v := fun ⟨o, nm, qn, ho, _, hd, _⟩ => ⟨o, ho, fun v z => by rw [hd] at z; cases z⟩
  have hns : ∀ {h : Heap} {m : Str → Option Value}, h.Ns L m → ∃ o, h.get? L = some o ∧ ∀ v, o.data ≠ .cell v := fun ⟨o, es, ep, ho, hd, _⟩ => ⟨o, ho, fun v z => by rw [hd] at z; cases z⟩
  obtain ⟨n, hb, ⟨e, er, S⟩ | ⟨SN, e, n2, S⟩⟩ := S
  · subst e
    obtain ⟨h1, _, h3, m, y, t, h4, h5⟩ := S
    intro b hb
    rcases List.mem_cons.mp hb with rfl | hb
    · exact hgen h1
    · rw [List.mem_singleton.mp hb]; exact hns h4
  · subst e
    obtain ⟨h1, h2, kk, l, c, p, fs, seen, x, t, h3, h4, h5, h6⟩ := S
    obtain ⟨⟨m, hn, _⟩, ⟨its, c', hS, _⟩, _⟩ := h5
    intro b hb
    rcases List.mem_cons.mp hb with rfl | hb
    · exact hgen h1
    rcases List.mem_cons.mp hb with rfl | hb
    · exact hns hn
    · rw [List.mem_singleton.mp hb]; exact ⟨_, hS, fun v z => by cases z⟩
end

section
variable {X : Cx} {pins : List (Addr × Obj)} {σ : L2.St} {H : Hp} {s : Shared} {A0 : Around} {C fG fH bk L : Addr} {lk : Lk} {full rem : List Str} {a : Addr} {g : Nat} {fp : List Addr} {E : Value → Shared → Prop} {Q : Option Value → Shared → Prop}
/-- one turn -/
theorem turnG' (I : Inv X pins σ H s) (T : BkT X.K X.mg C fG fH) (B : BookF H C bk lk) (hh : A0.handled = none) (hroom : A0.depth + 1 < recursionLimit) (hu : A0.units + 129 < cLine) (hlen : full.length < 1000000)
    (S : Slp X.prog X.w X.K X.mg X.base C bk L lk full a g A0 fp rem s) (hf : ∀ b ∈ fp, FpOk X pins H b)
    (hQ0 : ∀ s', rem = [] → Inv X pins σ H s' → MvG g fp s s' → Q none s')
    (hQ1 : ∀ x ys t fp' s', rem = x :: ys → Inv X pins σ H s' → MvG g fp s s' → Slp X.prog X.w X.K X.mg X.base C bk L lk full a g A0 fp' ys s' → (∀ b ∈ fp', FpOk X pins H b) → (∀ b ∈ fp', b ∈ fp ∨ s.heap.objs.size ≤ b) → (∃ SN, fp' = [a, L, SN]) → Q (some (.str x t)) s') :
    NextOk X.prog X.w A0 a Q E s := by
  have M : Here X.K X.mg X.base s.heap := ⟨I.mod, I.bk⟩
  obtain ⟨n, hb, ⟨e, er, S⟩ | ⟨SN, e, n2, S⟩⟩ := S
  · subst e
    subst er
    have fL := hf L (by simp)
    refine next_fresh (P := X.prog) (w := X.w) (K := X.K) (mg := X.mg) (base := X.base) (C := C) T hh hroom hu hlen S n ⟨M, H, I.hok, B, fL.1, fL.1⟩ fun x ys t SN s' hfull hSN V S' => ?_
    have I' := inv_moved I V fun b hb => by rw [List.mem_singleton.mp hb]; exact fL
    refine hQ1 x ys t [a, L, SN] s' hfull I' (V.mono fun b hb => by rw [List.mem_singleton.mp hb]; simp) ⟨n, hb, .inr ⟨SN, rfl, ?_, S'⟩⟩ (fun b hb => ?_) (fun b hb => ?_) ⟨SN, rfl⟩
    · have := (I.hok.fresh hSN)
      intro z
      obtain ⟨o, nm, qn, ho, _⟩ := S.1
      have h1 := Heap.lt_size ho
      rw [z] at h1
      exact absurd (Nat.lt_of_lt_of_le h1 hSN) (Nat.lt_irrefl _)
    · rcases List.mem_cons.mp hb with rfl | hb
      · exact hf b (by simp)
      rcases List.mem_cons.mp hb with rfl | hb
      · exact hf b (by simp)
      · rw [List.mem_singleton.mp hb]
        exact I.fpOk hSN (I.hok.fresh hSN)
    · rcases List.mem_cons.mp hb with rfl | hb
      · exact .inl (by simp)
      rcases List.mem_cons.mp hb with rfl | hb
      · exact .inl (by simp)
      · rw [List.mem_singleton.mp hb]
        exact .inr hSN
  · subst e
    have fL := hf L (by simp)
    have fS := hf SN (by simp)
    have own : ∀ b ∈ [L, SN], FpOk X pins H b := fun b hb => hf b (List.mem_cons_of_mem _ hb)
    have sub : ∀ b ∈ [L, SN], b ∈ [a, L, SN] := fun b hb => List.mem_cons_of_mem _ hb
    have W : Wo X.prog X.w X.K X.mg X.base C bk L lk SN s := ⟨M, H, I.hok, B, fL.1, fS.1⟩
    cases rem with
    | nil => exact next_done hh (Nat.lt_of_succ_lt hroom) hb S W fun s' V => hQ0 s' rfl (inv_moved I V own) (V.mono sub)
    | cons x ys =>
      refine next_more hh (Nat.lt_of_succ_lt hroom) S n n2 W fun t s' V S' => ?_
      exact hQ1 x ys t _ s' rfl (inv_moved I V own) (V.mono sub) ⟨n, hb, .inr ⟨SN, rfl, n2, S'⟩⟩ hf (fun b hb => .inl hb) ⟨SN, rfl⟩
/-- one turn -/
theorem turnG (I : Inv X pins σ H s) (T : BkT X.K X.mg C fG fH) (B : BookF H C bk lk) (hh : A0.handled = none) (hroom : A0.depth + 1 < recursionLimit) (hu : A0.units + 129 < cLine) (hlen : full.length < 1000000)
    (S : Slp X.prog X.w X.K X.mg X.base C bk L lk full a g A0 fp rem s) (hf : ∀ b ∈ fp, FpOk X pins H b)
    (hQ0 : ∀ s', rem = [] → Inv X pins σ H s' → MvG g fp s s' → Q none s')
    (hQ1 : ∀ x ys t fp' s', rem = x :: ys → Inv X pins σ H s' → MvG g fp s s' → Slp X.prog X.w X.K X.mg X.base C bk L lk full a g A0 fp' ys s' → (∀ b ∈ fp', FpOk X pins H b) → (∀ b ∈ fp', b ∈ fp ∨ s.heap.objs.size ≤ b) → Q (some (.str x t)) s') :
    NextOk X.prog X.w A0 a Q E s :=
  turnG' I T B hh hroom hu hlen S hf hQ0 fun x ys t fp' s' e I' V S' f n _ => hQ1 x ys t fp' s' e I' V S' f n
end
end K39
/-! Mk -/
set_option maxHeartbeats 2000000
/-! chain(book, key): a generator that has not begun -/
namespace K39
open PySem PySem.Spec PyProof.Rows L2 GenW

/-- fresh, of whatever key -/
def SlpU (bk L : Addr) (v : V) (a : Addr) (g : Nat) (s : Shared) : Prop := s.heap.IsGen a g ∧ (∃ f cdv, s.gens[g]? = some (.fresh (.func (defBody sChain) (cEnv L f cdv)))) ∧
  ∃ m u, s.heap.Ns L m ∧ m "book" = some (.ref bk) ∧ m "key" = some u ∧ RelV v u ∧ m "seen" = none
theorem SlpU.keep {bk L : Addr} {v : V} {a : Addr} {g : Nat} {s s' : Shared} (S : SlpU bk L v a g s) (k : ∀ b ∈ [a, L], ∀ o, s.heap.get? b = some o → s'.heap.get? b = some o) (hg : s'.gens[g]? = s.gens[g]?) : SlpU bk L v a g s' := by
  obtain ⟨h1, ⟨f, cdv, h2⟩, m, u, h4, h5⟩ := S
  exact ⟨isGen_keep h1 fun o e => k a (by simp) o e, ⟨f, cdv, by rw [hg]; exact h2⟩, m, u, ns_at h4 fun o e => k L (by simp) o e, h5⟩
theorem SlpU.slp {P : Program} {w : World} {K : PySem.W.Frag} {mg : Str → Option Value} {base : Heap} {C bk L : Addr} {lk : Lk} {full : List Str} {a : Addr} {g : Nat} {A0 : Around} {y : Str} {s : Shared} (S : SlpU bk L (.str y) a g s) (n : a ≠ L) (hb : base.objs.size ≤ L)
    (hc : Ch lk [] (some y) full) (hy : (lk y).isSome = true) : Slp P w K mg base C bk L lk full a g A0 [a, L] full s := by
  obtain ⟨h1, h2, m, u, h4, h5, h6, ⟨t, rfl⟩, h7⟩ := S
  exact ⟨n, hb, .inl ⟨rfl, rfl, h1, h2, hb, m, y, t, h4, h5, h6, h7, hc, hy⟩⟩
/-- it is made -/
structure GMd (X : Cx) (pins : List (Addr × Obj)) (H : Hp) (bk : Addr) (v : V) (a L : Addr) (g : Nat) (s s' : Shared) : Prop where
  slp : SlpU bk L v a g s'
  ne : a ≠ L
  ab : X.base.objs.size ≤ L
  fa : FpOk X pins H a
  fL : FpOk X pins H L
  la : s.heap.objs.size ≤ a
  lL : s.heap.objs.size ≤ L
  keep : ∀ b o, s.heap.get? b = some o → s'.heap.get? b = some o
  gens : ∀ (i : Nat) (st : GenState), s.gens[i]? = some st → s'.gens[i]? = some st
  gnew : s.gens[g]? = none
section
variable {X : Cx} {pins : List (Addr × Obj)} {σ : L2.St} {H : Hp} {s : Shared}
theorem mk_call {bk f : Addr} {fd : FuncData} {v : V} {u : Value} {Q : Value → Shared → Prop} {E : Value → Shared → Prop} (I : Inv X pins σ H s) (F : FnP X.K "chain" "chain" sChain f fd) (hd : X.A.depth < recursionLimit) (ru : RelV v u)
    (hQ : ∀ a L g s', Inv X pins σ H s' → GMd X pins H bk v a L g s s' → Q (.ref a) s') : wpAny (model X.prog X.w) X.A (call (.ref f) [.ref bk, u]) Q E s := by
  obtain ⟨oc, od, dV, kV, doc, pm, an, cdv, ct, osl, rfl, lk, hcd, hdv, _⟩ := F.ex
  have e0 : dV = .none := dfl_none hdv
  subst e0
  have KX := I.kIn
  refine wpAny_call (codeAny_call_generator hd (KX _ _ lk) rfl rfl rfl rfl (PySem.W.codeRec_of KX hcd) ?_)
  refine (BindsTo.of_eq (binds := [("book", Value.ref bk), ("key", u)]) (by rfl)) _ _ _ _ ?_
  refine wpAny_newFunctionEnv_cells (by rfl) (fun y hy => ?_) fun env he s1 x => ?_
  · rcases List.mem_cons.mp hy with rfl | hy
    · exact .inl rfl
    · rw [List.mem_singleton.mp hy]; exact .inl rfl
  subst he
  have hn := x.toInCall.ns
  have G := grC x
  have kp := G.keep
  have lt1 : s.heap.objs.size < s1.heap.objs.size := hn.lt
  obtain ⟨h1, h2⟩ := has2 (x := "book") (y := "key") (u := .ref bk) (v := u) (sc := defScope sChain) (cs := []) (qual := "chain") (L := s.heap.objs.size) (f := f) (cdv := cdv) rfl rfl (by decide +kernel)
  have go : ∀ (go : Obj) (nm qn : Value) (tk : Nat), go.cls = .type "generator" → go.data = .fields #[.int s1.gens.size 0, nm, qn] → go.slots = #[] → (∀ h : Heap, (h.push go).get? h.objs.size = some go) →
      Q (.ref s1.heap.objs.size) { s1 with gens := s1.gens.push (.fresh (.func (defBody sChain) (cEnv s.heap.objs.size f cdv))), toks := tk, heap := s1.heap.push go } := by
    intro go nm qn tk hc hdt hsl hp
    refine hQ s1.heap.objs.size s.heap.objs.size s1.gens.size _ ?_ ⟨⟨⟨go, nm, qn, hp _, hc, hdt, hsl⟩, ⟨f, cdv, Array.getElem?_push_size ..⟩, _, u, ns_at hn fun o e => Heap.get?_push_of_some _ e, h1, h2, ru, ?_⟩, Nat.ne_of_gt lt1, ?_, ?_, ?_, Nat.le_of_lt lt1, Nat.le_refl _, fun b o e => Heap.get?_push_of_some _ (kp b o e), fun i st e => ?_, ?_⟩
    · refine I.call' (ch := []) G.os (Un.kept fun b o e => Heap.get?_push_of_some _ (kp b o e)) (I.hok.kept fun b o e => Heap.get?_push_of_some _ (kp b o e)) (AllBare.push (by rw [G.gens]; exact I.bare) rfl) fun b z => by simp at z
    · rfl
    · exact Nat.le_trans I.ok.bsz I.sz
    · exact I.fpOk (Nat.le_of_lt lt1) (I.hok.fresh (Nat.le_of_lt lt1))
    · exact I.fpOk (Nat.le_refl _) (I.hok.fresh (Nat.le_refl _))
    · show (s1.gens.push _)[i]? = _
      rw [G.gens, Array.getElem?_push, if_neg (Nat.ne_of_lt (Array.getElem?_eq_some_iff.mp e).1)]
      exact e
    · rw [← G.gens]
      simp
  exact ⟨I.nolimit.keeps kp, go _ _ _ _ rfl rfl rfl fun h => Heap.get?_push_size _ rfl⟩
/-- a name's value: only a token may be taken -/
theorem var_st {i : Nat} {x : Str} {v : V} {pos : Pos} {Q : Value → Shared → Prop} {E : Value → Shared → Prop} (I : Inv X pins σ H s) (hN : X.N[i]? = some x) (hv : Vis X.env.scope x) (e : σ[i]? = some (some v)) (h : ∀ u, RelV v u → Q u s)
    (hd : (x == ("__debug__" : Str)) = false := by decide) (hcd : (x == ("__classdict__" : Str)) = false := by decide) : wpAny (model X.prog X.w) X.A (eval (.Name x pos) X.env) Q E s := by
  obtain ⟨m, hn, hl⟩ := I.loc
  obtain ⟨u, r, l⟩ := hl i x v hN e hv
  rcases l with ⟨hk, hm⟩ | ⟨hk, c, hc, hcell⟩
  · exact wpAny_Name (wpAny_loadName_local I.ok.kind hk hn hm (h u r)) hd
  · rcases hk with hk | hk
    · exact wpAny_Name (wpAny_loadName_cell I.ok.kind hk hc hcell (h u r)) hd
    · exact wpAny_Name (wpAny_loadName_free I.ok.kind hk hc hcell (h u r) hcd) hd
/-- what the module has of chain -/
structure GenT (X : Cx) (f : Addr) : Prop where
  fn : ∃ fd, FnP X.K "chain" "chain" sChain f fd
  mg : X.mg "chain" = some (.ref f)
  kp : PySem.W.keepIn X.K (.ref f) = true
/-- chain(x, y), x and y names -/
theorem mk_expr {f bk : Addr} {i j : Nat} {x y : Str} {v : V} {p p1 p2 pos : Pos} {Q : Value → Shared → Prop} {E : Value → Shared → Prop} (G : GenT X f) (I : Inv X pins σ H s) (hd : X.A.depth < recursionLimit) (hg : Gl X "chain") (hx : X.N[i]? = some x) (vx : Vis X.env.scope x) (hy : X.N[j]? = some y) (vy : Vis X.env.scope y)
    (ex : σ[i]? = some (some (.ref bk))) (ey : σ[j]? = some (some v)) (hQ : ∀ a L g s', Inv X pins σ H s' → GMd X pins H bk v a L g s s' → Q (.ref a) s')
    (hdx : (x == ("__debug__" : Str)) = false := by decide) (hcx : (x == ("__classdict__" : Str)) = false := by decide) (hdy : (y == ("__debug__" : Str)) = false := by decide) (hcy : (y == ("__classdict__" : Str)) = false := by decide) :
    wpAny (model X.prog X.w) X.A (eval (.Call (.Name "chain" p) [.Name x p1, .Name y p2] [] pos) X.env) Q E s := by
  obtain ⟨fd, F⟩ := G.fn
  refine wpAny_Call_Name_kw (ld_glob I hg G.mg ?_)
  refine PySem.W.callWith_K (h₀ := X.base) (first := []) I.ok.mod.kin G.kp ?_ (by rfl) (by rfl)
  show wpAny _ _ (spliced ((false, eval (.Name x p1) X.env) :: (false, eval (.Name y p2) X.env) :: [])) _ _ s
  refine Calls.spliced_cons (var_st I hx vx ex (fun u ru => ?_) hdx hcx)
  have eu : u = Value.ref bk := ru
  subst eu
  refine Calls.spliced_cons (var_st I hy vy ey (fun u ru => ?_) hdy hcy)
  refine Calls.spliced_nil ⟨I.kIn, ?_⟩
  exact mk_call I F hd ru hQ
end
end K39
/-! Dr -/
set_option maxHeartbeats 2000000
/-! list(it) of an iterator, by an invariant over the very state -/
namespace K39
open PySem PySem.Spec PyProof.Rows L2 GenW

section
variable {P : Program} {w : World} {A : Around} {E : Value → Shared → Prop} {s : Shared}
theorem loopJ {R : Result → Shared → Prop} {S it : Addr} {J : Nat → Array Value → Shared → Prop}
    (step : ∀ m acc s, J m acc s → NextOk P w A.in1 it (fun r s' => match r with
      | none => R (.ok (.ret .none)) s'
      | some v => ∃ c, s'.heap.get? S = some (lO acc c) ∧ acc.size < sizeLine ∧ ∃ m', m' < m ∧ J m' (acc.push v) { s' with heap := s'.heap.update S (Obj.mapSeq (·.push v)) }) (fun e s' => R (.error e) s') s) :
    ∀ (m : Nat) (acc : Array Value) (s : Shared), J m acc s → codeAny (model P w) A (.builtin "list.extend.loop" ⟨[.ref S, .ref it, .none], []⟩) R s := by
  intro m
  induction m using Nat.strongRecOn with
  | _ m ih =>
    intro acc s hJ
    refine codeAny_builtin PySem.F.entry_extend_loop ?_
    rw [Around.under_plainId PySem.F.plain_extend_loop _]
    show wpAny _ A.in1 (pyNext (.ref it) >>= _) _ _ s
    refine wpAny_bind (wpAny_mono (step m acc s hJ).pyNext (fun r s' hr => ?_) fun e s' he => he)
    cases r with
    | none => exact wpAny_pure hr
    | some v =>
      obtain ⟨c, hS, hlen, m', hm, hJ'⟩ := hr
      show wpAny _ A.in1 (updateSeq S (·.push v) >>= _) _ _ _
      refine wpAny_bind (wpAny_updateSeq hS rfl (wpAny_pure ⟨plainId_quiet PySem.F.plain_extend_loop _, ?_⟩) (Nat.le_of_lt hlen) (by show (acc.push v).size ≤ sizeLine + 1; rw [Array.size_push]; omega))
      exact ih m' hm (acc.push v) _ hJ'

theorem list_callJ {it : Addr} {T : String} {J : Nat → Array Value → Shared → Prop} {Q : Value → Shared → Prop} (hT : ∃ o, s.heap.get? it = some o ∧ o.cls = .type T)
    (nolen : typeLookup (.type T) "__len__" = pure none) (nohint : typeLookup (.type T) "__length_hint__" = pure none) (h2 : (Value.type T == Value.type "list") = false) (h3 : (Value.type T == Value.type "tuple") = false)
    (hiter : ∀ (A : Around) (Q E : Value → Shared → Prop) (h' : Heap), (∀ b o, s.heap.get? b = some o → h'.get? b = some o) → Q (.ref it) { s with heap := h' } → wpAny (model P w) A (pyIter (.ref it)) Q E { s with heap := h' })
    (start : ∀ h' c, (∀ b o, s.heap.get? b = some o → h'.get? b = some o) → h'.get? s.heap.objs.size = some (lO #[] c) → s.heap.objs.size ≤ h'.objs.size → ∃ m, J m #[] { s with heap := h' })
    (step : ∀ m acc s', J m acc s' → NextOk P w A.in1.in1 it (fun r s1 => match r with
      | none => Q (.ref s.heap.objs.size) s1
      | some v => ∃ c, s1.heap.get? s.heap.objs.size = some (lO acc c) ∧ acc.size < sizeLine ∧ ∃ m', m' < m ∧ J m' (acc.push v) { s1 with heap := s1.heap.update s.heap.objs.size (Obj.mapSeq (·.push v)) }) E s') :
    wpAny (model P w) A (call (.type "list") [.ref it]) Q E s := by
  obtain ⟨o0, ho0, hc0⟩ := hT
  have hSa : s.heap.objs.size ≠ it := Nat.ne_of_gt (Heap.lt_size ho0)
  have hty : ∀ {h' : Heap}, (∀ b o, s.heap.get? b = some o → h'.get? b = some o) → ({ s with heap := h' } : Shared).TypeIs (.ref it) T := fun {h'} k => ⟨o0, k it o0 ho0, hc0⟩
  refine callType_codes (Q₁ := fun obj s₁ => obj = .ref s.heap.objs.size ∧ s₁ = { s with heap := s.heap.push { cls := .type "list", data := .seq #[] } }) PySem.F.called_list (PySem.F.typeCall_list_1 _) PySem.F.entry_list_init
    (code_list_new _ ⟨rfl, rfl⟩) fun obj s₁ h₁ => ?_
  obtain ⟨rfl, rfl⟩ := h₁
  have hS : (s.heap.push { cls := .type "list", data := .seq #[] }).get? s.heap.objs.size = some { cls := .type "list", data := .seq #[] } := Heap.get?_push_size _ rfl
  refine ⟨⟨_, hS, rfl⟩, PySem.F.args_list_init_2 _ _, ?_⟩
  show wpAny _ A.in1.in1 (do let old ← Builtin.List.listItems (.ref s.heap.objs.size); Builtin.List.listUpdate (.ref s.heap.objs.size) (fun _ => #[]); letGo old.toList.reverse; Builtin.List.listExtendWith (.ref s.heap.objs.size) (.ref it) .none) _ _ _
  refine wpAny_bind ?_
  unfold Builtin.List.listItems
  refine wpAny_bind (wpAny_seqItems hS rfl (wpAny_pure ?_))
  show wpAny _ A.in1.in1 (updateSeq s.heap.objs.size (fun _ => #[]) >>= fun _ => letGo (#[] : Array Value).toList.reverse >>= fun _ => Builtin.List.listExtendWith (.ref s.heap.objs.size) (.ref it) .none) _ _ _
  refine wpAny_bind (wpAny_updateSeq hS rfl ?_)
  have hS2 := Heap.get?_update_self (Obj.mapSeq (fun _ => (#[] : Array Value))) hS rfl
  refine wpAny_bind (wpAny_letGo ?_)
  unfold Builtin.List.listExtendWith
  have up : ∀ (h : Heap) (f : Obj → Obj), (∀ b o, s.heap.get? b = some o → h.get? b = some o) → ∀ b o, s.heap.get? b = some o → (h.update s.heap.objs.size f).get? b = some o := fun h f q b o e =>
    (Heap.get?_update_other _ _ (Ne.symm (Nat.ne_of_lt (Heap.lt_size e)))).trans (q b o e)
  have k1 : ∀ b o, s.heap.get? b = some o → (s.heap.push { cls := .type "list", data := .seq #[] }).get? b = some o := fun b o e => Heap.get?_push_of_some _ e
  have k2 := up _ (Obj.mapSeq (fun _ => (#[] : Array Value))) k1
  refine wpAny_bind (wpAny_typeOf (hty k2) ?_)
  have h1 : Builtin.List.listSameRef (.ref s.heap.objs.size) (.ref it) = false := by simp [Builtin.List.listSameRef, hSa]
  simp only [h1, h2, h3, Bool.or_false, Bool.false_eq_true, if_false]
  refine wpAny_bind (hiter _ _ _ _ k2 ?_)
  refine wpAny_bind (wpAny_holding ?_)
  unfold Builtin.List.listLengthHint
  refine wpAny_bind (wpAny_specialOf (hty k2) nolen ?_)
  show wpAny _ A.in1.in1 (specialOf (Value.ref it) (Str.ofString "__length_hint__") >>= _) _ _ _
  refine wpAny_bind (wpAny_specialOf (hty k2) nohint ?_)
  refine wpAny_pure ?_
  show wpAny _ A.in1.in1 (rule "list.extend.makes-room" >>= fun _ => Builtin.List.listTouch (.ref s.heap.objs.size) >>= fun _ =>
    again (.builtin "list.extend.loop" ⟨[.ref s.heap.objs.size, .ref it, .none], []⟩)) _ _ _
  refine wpAny_bind (wpAny_rule ?_)
  refine wpAny_bind ?_
  show wpAny _ A.in1.in1 (updateSeq s.heap.objs.size (·.push .none) >>= fun _ => updateSeq s.heap.objs.size (·.pop)) _ _ _
  refine wpAny_bind (wpAny_updateSeq hS2 rfl ?_)
  have hS3 := Heap.get?_update_self (Obj.mapSeq (·.push Value.none)) hS2 rfl
  refine wpAny_updateSeq (hz := by seq_fits) hS3 rfl ?_
  have hS4 := Heap.get?_update_self (Obj.mapSeq (·.pop)) hS3 rfl
  have k4 := up _ (Obj.mapSeq (·.pop)) (up _ (Obj.mapSeq (·.push Value.none)) k2)
  refine wpAny_pure ⟨plainId_quiet PySem.F.plain_extend_loop _, ?_⟩
  obtain ⟨m, hJ⟩ := start _ _ k4 hS4 (by
    simp only [(Heap.SameBut.update ..).1, Heap.size_push]
    exact Nat.le_succ _)
  refine loopJ (J := J) (fun m acc s' h => (step m acc s' h).mono (fun r s1 hr => ?_) fun e s1 he => he) m #[] _ hJ
  cases r with
  | none => exact ⟨rfl, hr⟩
  | some v => exact hr
end
end K39
/-! Ni -/
set_option maxHeartbeats 2000000
set_option pp.maxSteps 300
/-! NoItem(key): an error with a super().__init__ and a field -/
namespace K39
open PySem PySem.Spec PyProof.Rows L2
open PySem.W (Frag ksFn ksEnv ks_superObj ks_superIn kxs_mw findIn typeIn keepIn subIn hasDictIn codeIn clsIn mroIn nsIn)
open PySem.HandSPX (excO)

/-- what the top has of NoItem, at C, and of its __init__, at fI -/
structure NiTxt (P : Program) (K : Frag) (mg : Str → Option Value) (C fI : Addr) : Prop where
  gC : mg "NoItem" = some (.ref C)
  cls : ∃ nm q N bs bm sn sub ab col dd k0 k1 k2 k3 k5, K.lookup C = some (excClassObj nm q C N bs bm true sn sub ab col dd k0 k1 k2 k3 k5 "ValueError.__new__") ∧ PySem.HandSPX.refsVE bm = true
  xi : PySem.W.excInitIn K C [.type "ValueError", .type "Exception", .type "BaseException", .type "object"] "ValueError.__new__" = true
  sa : findIn K (.ref C) "__setattr__" = some (some (.builtin "object.__setattr__"))
  ga : findIn K (.ref C) "__getattribute__" = some (some (.builtin "BaseException.__getattribute__"))
  gg : findIn K (.ref C) "__getattr__" = some none
  noN : findIn K (.ref C) "key" = some none
  iC : findIn K (.ref C) "__init__" = some (some (.ref fI))
  tC : typeIn K (.ref fI) = some (.type "function")
  kC : keepIn K (.ref C) = true
  exC : subIn K (.ref C) (.type "BaseException") = some true
  veC : subIn K (.ref C) (.type "ValueError") = some true
  tyC : typeIn K (.ref C) = some (.type "type")
  hdC : hasDictIn K C = true
  selfC : mroIn K C (.ref C) = some true
  su : ks_superIn K C C "__init__" = some (some (.builtin "ValueError.__init__"))
  nosup : mg "super" = none
  opq : nsIn K cStatics "thirdparty.any" = some none
  fn : ∃ (oc : Value) (od : Option Addr) (doc pm : Value) (an : Option Addr) (cda : Addr) (ct : Value) (osl : Array (Option Value)) (cc : Addr),
    K.lookup fI = some ⟨oc, od, .func (ksFn "__init__" "NoItem.__init__" (defArgs sNoItemInit) (defBody sNoItemInit) (defScope sNoItemInit) .none .none doc pm an (.ref cda) ct cc), osl⟩ ∧ codeIn K (.ref cda) "NoItem.__init__" = true ∧
    (∃ (ccl : Value) (cdd : Option Addr) (vs : Array Value) (ccs : Array (Option Value)) (file : Str) (tf : Tok), K.lookup cda = some ⟨ccl, cdd, .fields vs, ccs⟩ ∧ vs[2]? = some (.str file tf) ∧ ((P.main.file : Str) == file) = true) ∧
    ∃ (cl : Value) (cld : Option Addr) (csl : Array (Option Value)), K.lookup cc = some ⟨cl, cld, .cell (some (.ref C)), csl⟩
  main : (P.main.scope.names.lookup ("super" : Str)).isSome = false

/-- what __init__ leaves of a fresh error at x -/
structure NiEnd (h₀ h' : Heap) (x C dx t1 : Addr) (v : Value) : Prop where
  keep : ∀ b o, h₀.get? b = some o → h'.get? b = some o
  obj : h'.get? x = some { cls := .ref C, dict := some dx, data := .fields #[.ref t1, .none, .none, .none, .bool false, .none] }
  dbig : h₀.objs.size ≤ dx
  dne : dx ≠ x
  ns : h'.Ns1 dx (fun y => if y = "key" then some v else none)
abbrev niEnv (L fI cda cc : Addr) : Env := ksEnv "NoItem.__init__" (defScope sNoItemInit) L fI (.ref cda) cc
section
variable {P : Program} {w : World} {A : Around} {E : Value → Shared → Prop} {R : Result → Shared → Prop} {s : Shared} {K : Frag} {mg : Str → Option Value} {C fI : Addr} {h₀ : Heap}
theorem ldN {M : Model} {env : Env} {m : Str → Option Value} {x : Str} {pos : Pos} {v : Value} {Q : Value → Shared → Prop} (hn : s.heap.Ns env.locals m) (hv : m x = some v) (h : Q v s)
    (hk : env.scope.kind = .function := by rfl) (hl : env.kindOf x = some .local := by rfl) (hd : (x == ("__debug__" : Str)) = false := by decide) : wpAny M A (eval (.Name x pos) env) Q E s :=
  wpAny_Name (wpAny_loadName_local hk hl hn hv h) hd
theorem ni_init (T : NiTxt P K mg C fI) (hg : h₀.Ns mainGlobals mg) (hb : ∃ mb, h₀.Ns builtinsNs mb ∧ ∀ x : Str, x ≠ "__name__" → mb x = bootBuiltins x) {x t0 : Addr} {v : Value} (X₀ : K.In h₀) (kp0 : ∀ b o, h₀.get? b = some o → s.heap.get? b = some o) (hlim : s.heap.NoLimit) (hx0 : h₀.get? x = none)
    (hsz : h₀.objs.size ≤ s.heap.objs.size) (hx : s.heap.get? x = some (excO C t0)) (hroom : A.depth < recursionLimit) (hq : ∀ h' tk dx t1, NiEnd h₀ h' x C dx t1 v → R (.ok (.ret .none)) { s with heap := h', toks := tk }) :
    codeAny (model P w) A (.call (.ref fI) ⟨[.ref x, v], []⟩) R s := by
  obtain ⟨oc, od, doc, pm, an, cda, ct, osl, cc, ho, hcd, ⟨ccl, cdd, vs, ccs, file, tf, hcode, hvs, hfile⟩, cl, cld, csl, hcell⟩ := T.fn
  obtain ⟨nm, q, N, bs, bm, sn, sub, ab, col, dd, k0, k1, k2, k3, k5, hC, hbm⟩ := T.cls
  have hcl : clsIn K C = some { name := nm, bases := bs, mro := .ref C :: bm, ns := N, qualname := q, hasDict := true, slotNames := sn, subclasses := sub, abstract := ab, collection := col, hasDel := false } := by unfold clsIn; rw [hC] <;> rfl
  have X : K.In s.heap := X₀.keeps kp0
  obtain ⟨mb, hb1, hb2⟩ := hb
  refine ks_codeAny_call_defAt (binds := [("self", .ref x), ("key", v)]) hroom (X _ _ ho) rfl hlim (PySem.W.codeRec_of X hcd) rfl (BindsTo.of_eq (by first | rfl | with_unfolding_all rfl)) (show ∀ x ∈ (defScope sNoItemInit).names, x.2 ≠ .cell by decide +kernel) (fun y hy => ?_) fun h₁ hns hk₁ => ?_
  · rcases List.mem_cons.mp hy with rfl | hy
    · rfl
    · rw [List.mem_singleton.mp hy]; rfl
  have k₁ : ∀ b o, h₀.get? b = some o → h₁.get? b = some o := fun b o e => hk₁ b o (kp0 b o e)
  have X₁ : K.In h₁ := X₀.keeps k₁
  have hx₁ := hk₁ _ _ hx
  have hxL : x ≠ s.heap.objs.size := Nat.ne_of_lt (Heap.lt_size hx)
  have Fr₁ : Fr h₀ s.heap.objs.size h₁ (fun y => ([(("self" : Str), Value.ref x), ("key", v)] : List (Str × Value)).reverse.lookup y) := ⟨hns, k₁, hsz⟩
  have N₁ : News h₀ s.heap.objs.size h₁ [(x, excO C t0)] := fun p hp => by rw [List.mem_singleton.mp hp]; exact ⟨hx₁, hxL, hx0⟩
  obtain ⟨hh, g, d, t, os⟩ := s
  have hC₁ := X₁ _ _ hC
  have hxC : x ≠ C := fun z => by
    have e := X₀ _ _ hC
    rw [← z, hx0] at e
    cases e
  show PySem.wpAt _ _ _ (execs [.Expr (.Call (.Attribute (.Call (.Name "super" _) [] [] _) "__init__" _) [.Constant (.str "there is no such item") 0 _] [] _) _, .Assign [.Attribute (.Name "self" _) "key" _] (.Name "key" _) _] (niEnv hh.objs.size fI cda cc)) _ _ _
  refine ks_wpAt_execs_cons (ks_wpAt_Expr_any (ks_wpAt_MethodCall ?_ (by rfl)))
  refine ks_wpAt_super_base (env := niEnv hh.objs.size fI cda cc) rfl rfl (by decide +kernel) rfl (X₁ _ _ ho) rfl rfl rfl (X₁ _ _ hcode) rfl hvs hfile T.main ?_
  refine PySem.W.ks_loadName_global rfl rfl (Calls.loadGlobal_builtin (env := niEnv hh.objs.size fI cda cc) (hg.keeps k₁) T.nosup (hb1.keeps k₁) ((hb2 "super" (by decide +kernel)).trans Boot.super) ⟨rfl, ?_⟩)
  refine wpAny_loadName_free rfl rfl rfl ⟨_, X₁ _ _ hcell, rfl⟩ ?_
  refine wpAny_loadName_local rfl rfl hns (v := .ref x) rfl ?_
  refine ks_wpAny_isType_cls hC₁ rfl ⟨rfl, ?_⟩
  refine ks_wpAny_call_super hC₁ rfl hx₁ rfl (fun c e => by cases e) (PySem.W.looks_mroIn X₁ T.selfC) (fun h₂ e₂ k₂ => ?_)
  obtain ⟨Fr₂, N₂, l₂⟩ := PySem.W.ks_newsPush (s := ⟨h₁, g, d, t, os⟩) Fr₁ N₁ rfl e₂ k₂
  have X₂ : K.In h₂ := X₀.keeps Fr₂.keep
  have su := T.su
  unfold ks_superIn at su
  rw [hcl] at su
  have I₂ : PySem.W.InstAt h₂ x (excO C t0) C none := ⟨k₂ _ _ hx₁, rfl, rfl, trivial⟩
  refine PySem.W.kxs_getMethod PySem.W.kxs_ValueError (N₂ _ List.mem_cons_self).1 (PySem.W.looks_opaque X₂ T.opq) (fun A Q E s k q => wpAny_bind ((PySem.W.looks_clsIn X₂ hcl) A _ E s k (wpAny_pure q))) rfl X₂ su
    (I₂.type.andThen (PySem.W.looks_subIn X₂ T.veC)) hxC (by decide +kernel) ?_
  obtain ⟨Fr₃, N₃, l₃⟩ := PySem.W.ks_newsPush (s := ⟨h₂, g, d, t, os⟩) (o := kxs_mw "ValueError.__init__" x) Fr₂ N₂ rfl (Heap.get?_push_at rfl rfl) (fun b o e => Heap.get?_push_of_some _ e)
  refine PySem.W.kxs_callWith1 (i := "ValueError.__init__") (x := x) N₃ List.mem_cons_self ?_ (by rfl) (by rfl)
  refine Calls.spliced_cons (Calls.Constant_str (k := 0) (pos := ⟨42, 25, 42, 48⟩) ?_)
  refine Calls.spliced_nil ⟨PySem.W.kxs_at N₃ List.mem_cons_self, ?_⟩
  have nx : ∀ p ∈ [(h₂.objs.size, kxs_mw "ValueError.__init__" x), (h₁.objs.size, ks_superObj C x C)], p.1 ≠ x := fun p hp => by
    have lx : x < h₁.objs.size := Heap.lt_size hx₁
    have lx2 : x < h₂.objs.size := Heap.lt_size (k₂ _ _ hx₁)
    rcases List.mem_cons.mp hp with rfl | hp
    · exact Nat.ne_of_gt lx2
    · rw [List.mem_singleton.mp hp]; exact Nat.ne_of_gt lx
  refine PySem.W.kxs_call (t := t0) (dv := none) (c2 := .none) Fr₃ X₀ N₃ PySem.F.excBase_ValueError T.xi List.mem_cons_self (.tail (nx _ (by simp)) (.tail (nx _ (by simp)) (.head fun _ hp => by cases hp))) (by rw [sizeLine_eq]; exact (by decide : 1 ≤ 16777216)) fun t1 h₄ Fr₄ N₄ l₄ => ?_
  have hx₄ : h₄.get? x = some (excO C t1) := (N₄ (x, excO C t1) (by simp)).1
  have X₄ : K.In h₄ := X₀.keeps Fr₄.keep
  refine wpAt_of_wpAny ?_
  refine wpAny_execs_cons (plainObj_wpAny_Assign_Attribute ?_)
  refine ldN (env := niEnv hh.objs.size fI cda cc) (v := v) Fr₄.ns (by first | rfl | with_unfolding_all rfl | kernel_rfl) (ldN (env := niEnv hh.objs.size fI cda cc) (v := .ref x) Fr₄.ns (by first | rfl | with_unfolding_all rfl | kernel_rfl) ?_)
  refine PySem.W.set_plain X₄ (ox := excO C t1) (od := none) ⟨hx₄, rfl, rfl, trivial⟩ T.sa ?_
  refine PySem.HandSPX.exc_osa X₄ hx₄ hcl (show PySem.HandSPX.refsVE (.ref C :: bm) = true from hbm) rfl T.noN (fun h₅ tk₅ dx k₅ dn dne hx₅ hn₅ => ?_)
  have lL : hh.objs.size < h₄.objs.size := Fr₄.ns.lt
  exact wpAny_execs_nil (hq h₅ tk₅ dx t1 ⟨fun b o e => k₅ b o (fun z => by rw [z, hx0] at e; cases e) (Fr₄.keep b o e), hx₅, Nat.le_trans hsz (Nat.le_of_lt (Nat.lt_of_lt_of_le lL dn)), dne, hn₅⟩)
end
end K39
/-! Nm -/
set_option maxHeartbeats 2000000
/-! raise NoItem(key) -/
namespace K39
open PySem PySem.Spec PyProof.Rows L2
open PySem.HandSPX (excO call_own)

/-- a made NoItem -/
structure NiMade (h h' : Heap) (e C d : Addr) (v : Value) : Prop where
  keep : ∀ b o, h.get? b = some o → h'.get? b = some o
  new : h.objs.size ≤ e
  obj : ∃ oe vs, h'.get? e = some oe ∧ oe.cls = .ref C ∧ oe.dict = some d ∧ oe.data = .fields vs ∧ vs[1]? = some .none
  dbig : h.objs.size ≤ d
  dne : d ≠ e
  ns : h'.Ns1 d (fun y => if y = "key" then some v else none)
section
variable {P : Program} {w : World} {A : Around} {R : Result → Shared → Prop} {s : Shared} {K : PySem.W.Frag} {mg : Str → Option Value} {C fI : Addr}
theorem ni_made (T : NiTxt P K mg C fI) {v : Value} (hg : s.heap.Ns mainGlobals mg) (hb : ∃ mb, s.heap.Ns builtinsNs mb ∧ ∀ x : Str, x ≠ "__name__" → mb x = bootBuiltins x) (X : K.In s.heap) (hlim : s.heap.NoLimit) (hroom : A.depth + 1 < recursionLimit)
    (hq : ∀ h' tk e d, NiMade s.heap h' e C d v → R (.ok (.ret (.ref e))) { s with heap := h', toks := tk }) :
    codeAny (model P w) A (.call (.ref C) ⟨[v], []⟩) R s := by
  obtain ⟨nm, q, N, bs, bm, sn, sub, ab, col, dd, k0, k1, k2, k3, k5, hC, hbm⟩ := T.cls
  obtain ⟨hp, g, dr, tk, os⟩ := s
  have k : ∀ b o, hp.get? b = some o → ((hp.push (PySem.W.kdv_tup [v])).push (excO C hp.objs.size)).get? b = some o := fun b o e => Heap.get?_push_of_some _ (Heap.get?_push_of_some _ e)
  have hget : ((hp.push (PySem.W.kdv_tup [v])).push (excO C hp.objs.size)).get? (hp.objs.size + 1) = some (excO C hp.objs.size) := by heap_get
  refine call_own PySem.F.excBase_ValueError (fun X => PySem.HandSPX.refsVE_contains X bm hbm) (X _ _ hC) (PySem.W.looks_findIn X T.iC) (fun self => PySem.W.bind_fn X self T.tC) (by rw [sizeLine_eq]; exact (by decide : 1 ≤ 16777216)) ?_
  refine ni_init (h₀ := hp) (s := ⟨(hp.push (PySem.W.kdv_tup [v])).push (excO C hp.objs.size), g, dr, tk, os⟩) T hg hb X k (hlim.keeps k) (Heap.get?_none_of_le (Nat.le_succ _)) ?_ hget ?_ fun h' tk' dx t1 E => ?_
  · show hp.objs.size ≤ ((hp.push _).push _).objs.size
    rw [Heap.size_push, Heap.size_push]
    omega
  · show A.depth + 1 < recursionLimit
    exact hroom
  · exact ⟨rfl, hq h' tk' (hp.objs.size + 1) dx ⟨E.keep, Nat.le_succ _, ⟨_, _, E.obj, rfl, rfl, rfl, rfl⟩, E.dbig, E.dne, E.ns⟩⟩
end
theorem relO_ni {v : V} {v' : Value} (r : RelV v v') (f : Str) : RelO (List.lookup f [(("key" : Str), v)]) (if f = "key" then some v' else none) := by
  by_cases hw : f = "key"
  · subst hw
    rw [if_pos rfl]
    have q : List.lookup ("key" : Str) [(("key" : Str), v)] = some v := by simp [List.lookup]
    rw [q]
    exact r
  · rw [if_neg hw]
    have qw : (f == ("key" : Str)) = false := by simpa using hw
    have q2 : List.lookup f [(("key" : Str), v)] = none := by simp [List.lookup, qw]
    rw [q2]
    trivial
section
variable {X : Cx} {C fI : Addr}
/-- NoItem(e) -/
def tMkNi (C : Addr) (ta : TA) : L2.St → Hp → XK → Prop := fun σ H Q => ta σ H fun vs H1 => ∃ v, vs = [v] ∧ ∀ d, H1 d = none → Q (.ref C) (some d) (upd H1 d (.xd [(("key" : Str), v)]))
theorem pmk_ni {a : Expr} {ta : TA} {p pos : Pos} {k : Nat} (T : NiTxt X.prog X.K X.mg C fI) (hr : Room k X.A) (ha : PA X [a] ta) (hg : Gl X "NoItem" := by rfl)
    (he : starEach (a :: []) X.env = (false, eval a X.env) :: starEach [] X.env := by rfl) (hpl : (backTo pos (starEach [] X.env)).any (·.1) = false := by rfl) :
    PMk X (.Call (.Name "NoItem" p) [a] [] pos) (tMkNi C ta) := by
  intro pins s σ H Q I h
  refine wpAny_Call_Name_kw (ld_glob I hg T.gC ?_)
  refine PySem.W.callWith_K (h₀ := X.base) I.ok.mod.kin T.kC (thn (ha.run pos pins s σ H _ I h) fun us s1 hh => ?_) he hpl
  obtain ⟨vs, H1, I1, r1, v, ev, q1⟩ := hh
  subst ev
  refine ⟨I1.kIn, ?_⟩
  cases r1 with
  | cons rv rn =>
    rename_i v' us'
    cases rn
    show wpAny _ _ (call (.ref C) [v']) _ _ _
    have hlim := I1.nolimit
    obtain ⟨mb, hb1, hb2⟩ := I1.mod.blt
    have hgl := I1.mod.glob.keeps I1.bk
    have hbl := hb1.keeps I1.bk
    obtain ⟨hp, g, dr, tk, os⟩ := s1
    refine wpAny_call (ni_made T hgl ⟨mb, hbl, hb2⟩ I1.kIn hlim (by have := hr.dp; omega) fun h' tk' e d M => ?_)
    show MkP X pins σ Q (.ref e) ⟨h', g, dr, tk', os⟩
    obtain ⟨oe, fv, hoe, hc, hd, hdat, h1⟩ := M.obj
    have hns := M.ns
    obtain ⟨G', g1, g2⟩ := restrict h' fun b => decide (b ≠ e)
    have gk : ∀ b, b ≠ e → G'.get? b = h'.get? b := fun b hb => g1 b (decide_eq_true hb)
    have ge : G'.get? e = none := g2 e (by simp)
    have old : ∀ b o, hp.get? b = some o → G'.get? b = some o := fun b o q => (gk b (Nat.ne_of_lt (Nat.lt_of_lt_of_le (Heap.lt_size q) M.new))).trans (M.keep b o q)
    have ob : ObjOk X.prog X.w (upd H1 d (.xd [(("key" : Str), v)])) G' d (.xd [(("key" : Str), v)]) :=
      ⟨_, hns.at (fun o q => (gk d M.dne).trans q), fun f => relO_ni rv f⟩
    have J : Inv X pins σ (upd H1 d (.xd [(("key" : Str), v)])) ⟨G', g, dr, tk', os⟩ := I1.laid (t' := tk') old M.dbig ob
    refine ⟨e, oe, fv, ⟨G', g, dr, tk', os⟩, _, .ref C, some d, rfl, J, fun b o q => ?_, ge, hoe, ⟨hc, hd⟩, hdat, h1, ?_, rfl, I1.bare, raises_own T.exC T.tyC, q1 d (I1.hok.fresh M.dbig)⟩
    · by_cases hb : b = e
      · have q' : G'.get? b = some o := q
        rw [hb, ge] at q'; cases q'
      · exact (gk b hb).symm.trans q
    · rw [upd_ne (Ne.symm M.dne)]
      exact I1.hok.fresh M.new
/-- raise NoItem(e) -/
def tRaiseNi (C : Addr) (W : WX) (ta : TA) : TS := fun _ σ H => tMkNi C ta σ H fun cls d H' => W cls d σ H'
theorem ps_raiseNi {a : Expr} {ta : TA} {W : WX} {p pos pos2 : Pos} {k : Nat} (hc : X.calm = true) (T : NiTxt X.prog X.K X.mg C fI) (hr : Room k X.A) (tk : Takes X W) (ha : PA X [a] ta) (hg : Gl X "NoItem" := by rfl)
    (he : starEach (a :: []) X.env = (false, eval a X.env) :: starEach [] X.env := by rfl) (hpl : (backTo pos (starEach [] X.env)).any (·.1) = false := by rfl) :
    PS X (.Raise (some (.Call (.Name "NoItem" p) [a] [] pos)) none pos2) (tRaiseNi C W ta) := ps_raise hc tk (pmk_ni T hr ha hg he hpl)
end
end K39
/-! L1 -/
set_option maxHeartbeats 2000000
/-! the draw: begin, mixed, next -/
namespace K39
open PySem PySem.Spec PyProof.Rows L2

/-- the built-in names are the built-in ones -/
structure Bl (mg : Str → Option Value) : Prop where
  int : mg "int" = none
  len : mg "len" = none
  isinstance : mg "isinstance" = none
  str : mg "str" = none
  list : mg "list" = none
  tuple : mg "tuple" = none
  bool : mg "bool" = none
  set : mg "set" = none
  zip : mg "zip" = none
  range : mg "range" = none
  ord : mg "ord" = none
  all : mg "all" = none
  any : mg "any" = none
  repr : mg "repr" = none
  enumerate : mg "enumerate" = none
/-- a def of the top -/
structure FnA (K : PySem.W.Frag) (mg : Str → Option Value) (x : Str) (st : Stmt) : Prop where
  ex : ∃ f fd, Fun K x x st f fd ∧ mg x = some (.ref f)
section
variable {P : Program} {w : World} {K : PySem.W.Frag} {mg : Str → Option Value} {base : Heap}
/-- its promise -/
theorem FnA.cal {x : Str} {st : Stmt} {N ps : List Str} {k : Nat} {sp : Sp} (F : FnA K mg x st) (S : FnScope N ps (defScope st))
    (hb : ∀ (kV doc pm : Value) (an : Option Addr) (cdv ct : Value) (us : List Value), us.length = ps.length → bindArgs (PySem.W.fnOf x x (defArgs st) (defBody st) (defScope st) .none kV doc pm an cdv ct) ⟨us, []⟩ = pure (ps.zip us))
    (len : ∀ vs H Q E, sp vs H Q E → vs.length = ps.length)
    (hbody : ∀ (f : Addr) (cdv : Value) (A : Around) (outer : List Env) (s : Shared) (H : Hp) (vs : List V) (Q : VK) (E : XK), Room k (A.deeper (envOfC x (defScope st) s.heap.objs.size f cdv)) → sp vs H Q E →
      ∃ t, PSs (cxOf CX0 P w K mg base N x (defScope st) f cdv A outer s H E).nox (defBody st) t ∧ t { nx := fun _ H' => Q .non H', rt := Q } (start N vs) H) : C8.Cal P w K mg base (k + 1) x sp [] := by
  obtain ⟨f, fd, F, hm⟩ := F.ex
  exact ⟨f, fd, ps, [], F.ok S len fun cdv A outer s H vs Q E hr h => hbody f cdv A outer s H vs Q E hr h, hm, F.kp, F.binds hb, .nil⟩
end
section
variable {X : Cx}
/-- list + list, each only read -/
def rCatS (K : PySem.W.Frag) : R2 := fun x y H Q => ∃ l b xs zs, x = .ref l ∧ y = .ref b ∧ SqL K H l xs ∧ SqL K H b zs ∧ xs.length + zs.length ≤ sizeLine ∧ ∀ p, H p = none → Q (.ref p) (upd H p (.lst (xs ++ zs)))
theorem op_catS : OpR X (binaryOp .Add) (rCatS X.K) := by
  intro pins s σ H x y v u Q I rx ry h
  obtain ⟨l, b, xs, zs, rfl, rfl, hH, hB, hz, q⟩ := h
  cases rx
  cases ry
  obtain ⟨its, r, ⟨o, n, e, c, d, dt⟩, _⟩ := I.list hH
  obtain ⟨its2, r2, ⟨o2, n2, e2, c2, d2, dt2⟩, _⟩ := I.list hB
  obtain ⟨cls, dd, data, sl⟩ := o
  obtain ⟨cls2, dd2, data2, sl2⟩ := o2
  simp only at c d dt c2 d2 dt2
  subst c d dt c2 d2 dt2
  have el : its.toArray.size + its2.toArray.size ≤ sizeLine := by
    rw [List.size_toArray, List.size_toArray, ← r.length, ← r2.length]
    exact hz
  refine concat_meets ⟨_, e, rfl⟩ ⟨_, e2, rfl⟩ noFill_list_add seq_list_add PySem.F.slot_list_add PySem.F.entry_list_add (PySem.F.args_list_add_2 _ _) (list_addW l b its.toArray its2.toArray n n2 none none sl sl2 el) ⟨e, e2, ?_⟩
  have ea : its.toArray ++ its2.toArray = (its ++ its2).toArray := by simp
  rw [ea]
  have hf : H s.heap.objs.size = none := I.hok.fresh (Nat.le_refl _)
  refine ⟨.ref _, _, I.laid (a := s.heap.objs.size) (t' := s.toks) (fun b u e => Heap.get?_push_of_some _ e) (Nat.le_refl _) (show ObjOk X.prog X.w _ _ _ (.lst (xs ++ zs)) from ⟨by rw [List.length_append]; exact hz, its ++ its2, 0, r.append r2, Heap.get?_push_size _ rfl⟩), rfl, q _ hf⟩
/-- int(e) of an int -/
def rInt1 : List V → Hp → VK → Prop := fun xs H Q => ∃ i, xs = [.int i] ∧ Q (.int i) H
theorem call_intI : CallR X (.type "int") rInt1 := fun pins s σ H xs us Q I r h => call_int1 pins s σ H xs us Q I r (.inl h)
theorem pe_i {a : Expr} {ta : TE} {p pos : Pos} (B : Bl X.mg) (ha : PE X a ta) (hg : Gl X "int" := by rfl) (hs : starEach [a] X.env = (false, eval a X.env) :: starEach [] X.env := by rfl) : PE X (.Call (.Name "int" p) [a] [] pos) (tCB rInt1 (tCons ta tNil)) :=
  pe_callTy call_intI hg B.int (by decide +kernel) (pa_cons ha pa_nil hs) (he := hs)
end

section
variable {X : Cx} {a b : Expr} {ta tb : TE} {p p2 pos : Pos}
/-- len(e) of a list, a tuple -/
def rLenS (K : PySem.W.Frag) : List V → Hp → VK → Prop := fun xs H Q => ∃ p ys, xs = [.ref p] ∧ (SqL K H p ys ∨ SqT K H p ys) ∧ Q (.int ys.length) H
theorem pe_lenS (B : Bl X.mg) (ha : PE X a ta) (hg : Gl X "len" := by rfl) (hs : starEach [a] X.env = (false, eval a X.env) :: starEach [] X.env := by rfl) : PE X (.Call (.Name "len" p) [a] [] pos) (tCB (rLenS X.K) (tCons ta tNil)) :=
  pe_callB call_len_seq hg B.len (by decide +kernel) (pa_cons ha pa_nil hs) (he := hs)
/-- len(e) of a text -/
def rLenT : List V → Hp → VK → Prop := fun xs H Q => ∃ z, xs = [.str z] ∧ z.length ≤ sizeLine ∧ Q (.int z.length) H
theorem pe_lenT (B : Bl X.mg) (ha : PE X a ta) (hg : Gl X "len" := by rfl) (hs : starEach [a] X.env = (false, eval a X.env) :: starEach [] X.env := by rfl) : PE X (.Call (.Name "len" p) [a] [] pos) (tCB rLenT (tCons ta tNil)) :=
  pe_callB call_len_str hg B.len (by decide +kernel) (pa_cons ha pa_nil hs) (he := hs)
/-- isinstance(e, T) -/
theorem pe_isi {n : Str} {T : String} (B : Bl X.mg) (ha : PE X a ta) (hm : X.mg n = none) (hv : bootBuiltins n = some (.type T)) (hg : Gl X "isinstance" := by rfl) (hg2 : Gl X n := by rfl) (hn : n ≠ "__name__" := by decide) (hd : (n == ("__debug__" : Str)) = false := by decide)
    (hs : starEach [a, .Name n p2] X.env = (false, eval a X.env) :: starEach [.Name n p2] X.env := by rfl) (hs2 : starEach [.Name n p2] X.env = (false, eval (.Name n p2) X.env) :: starEach [] X.env := by rfl)
    (hpl : (backTo pos (starEach [.Name n p2] X.env)).any (·.1) = false := by rfl) :
    PE X (.Call (.Name "isinstance" p) [a, .Name n p2] [] pos) (tCB (rIsi X.K) (tCons ta (tCons (tC (.ty T)) tNil))) :=
  pe_callB call_isi hg B.isinstance (by decide +kernel) (pa_cons ha (pa_cons (pe_bltn hg2 hm hv rfl hn hd) pa_nil hs2) hs) (he := hs) (hpl := hpl)
end
/-- the draw at d: each number of the script, where it stands, at most m draws so far -/
def DrawOk (H : Hp) (d : Addr) (m : Nat) : Prop := ∃ (c : Addr) (cells : List Int) (a l u : Int), H d = some (.dK [(.inr "cells", .ref c), (.inr "at", .int a), (.inr "left", .int l), (.inr "used", .int u)]) ∧ H c = some (.lst (cells.map V.int)) ∧
  cells ≠ [] ∧ 0 ≤ a ∧ a ≤ m ∧ 0 ≤ u ∧ u ≤ m
theorem DrawOk.mono {H : Hp} {d : Addr} {m n : Nat} (h : DrawOk H d m) (l : m ≤ n) : DrawOk H d n := by
  obtain ⟨c, cells, a, l', u, h1, h2, h3, h4, h5, h6, h7⟩ := h
  exact ⟨c, cells, a, l', u, h1, h2, h3, h4, by omega, h6, by omega⟩
/-- all but d is as it was -/
def But (d : Addr) (H H' : Hp) : Prop := ∀ b o, b ≠ d → H b = some o → H' b = some o
theorem But.refl {d : Addr} {H : Hp} : But d H H := fun _ _ _ h => h
theorem But.trans {d : Addr} {H H1 H2 : Hp} (a : But d H H1) (b : But d H1 H2) : But d H H2 := fun c o n h => b c o n (a c o n h)
theorem Same.but {d : Addr} {H H' : Hp} (a : Same H H') : But d H H' := fun c o _ h => a c o h

def spBegin (K : PySem.W.Frag) : Sp := fun vs H Q _ => ∃ (a : Addr) (ns : List Int), vs = [.ref a] ∧ SqL K H a (ns.map V.int) ∧ ns.length ≤ 1000 ∧ ∀ (H' : Hp) (d : Addr), Same H H' → H d = none → DrawOk H' d 0 → Q (.ref d) H'
def spMixed : Sp := fun vs H Q _ => ∃ c k : Int, vs = [.int c, .int k] ∧ 0 ≤ k ∧ k < 2 ^ 63 ∧ ∀ r : Int, Q (.int r) H
/-- a number below the bound is drawn -/
def spNext : Sp := fun vs H Q _ => ∃ (d : Addr) (b : Int) (m : Nat), vs = [.ref d, .int b] ∧ 0 < b ∧ b < 1073741824 ∧ DrawOk H d m ∧ m < 1000000 ∧ ∀ (H' : Hp) (r : Int), But d H H' → DrawOk H' d (m + 1) → 0 ≤ r → r < b → Q (.int r) H'

section
variable {P : Program} {w : World} {K : PySem.W.Frag} {mg : Str → Option Value} {base : Heap}
theorem scBegin : FnScope ["_law_script"] ["_law_script"] (defScope sBegin) := ⟨rfl, rfl, rfl, by decide +kernel, rfl, by decide +kernel, by decide +kernel⟩
theorem ok_begin (F : FnA K mg "_law_begin" sBegin) : C8.Cal P w K mg base 1 "_law_begin" (spBegin K) [] := by
  refine F.cal scBegin (fun _ _ _ _ _ _ us hl => match us, hl with | [_], _ => rfl) (fun vs H Q E h => by obtain ⟨a, ns, rfl, _⟩ := h; rfl) fun f cdv A outer s H vs Q E hr h => ?_
  refine ⟨_, pss_one (ps_ret (pe_disp (pps_cons pe_str (pe_op op_catS (pv 0) (pe_lst (pa_cons pe_int pa_nil))) (pps_cons pe_str pe_int (pps_cons pe_str pe_int (pps_cons pe_str pe_int pps_nil)))) rfl rfl (by decide) (by decide))), ?_⟩
  obtain ⟨a, ns, rfl, hS, hl, k⟩ := h
  intro p hp
  have hS1 : SqL K (upd H p (.dK [])) a (ns.map V.int) := by
    rcases hS with (h | ⟨o, h⟩) | h
    · exact .inl (.inl (by rw [upd_ne (ne_of_none h hp)]; exact h))
    · exact .inl (.inr ⟨o, by rw [upd_ne (ne_of_none h hp)]; exact h⟩)
    · exact .inr h
  refine ⟨_, rfl, by decide, fun q hq => ?_⟩
  have qp : q ≠ p := fun z => by rw [z, upd_same] at hq; cases hq
  have hq0 : H q = none := by rw [upd_ne qp] at hq; exact hq
  have hS2 : SqL K (upd (upd H p (.dK [])) q (.lst [.int 0])) a (ns.map V.int) := by
    rcases hS1 with (h | ⟨o, h⟩) | h
    · exact .inl (.inl (by rw [upd_ne (ne_of_none h hq)]; exact h))
    · exact .inl (.inr ⟨o, by rw [upd_ne (ne_of_none h hq)]; exact h⟩)
    · exact .inr h
  refine ⟨a, q, ns.map V.int, [.int 0], rfl, rfl, hS2, .of upd_same, ?_, fun c hc => ?_⟩
  · rw [List.length_map]
    have : (1000 : Nat) + 1 ≤ sizeLine := by rw [sizeLine_eq]; decide
    show ns.length + 1 ≤ sizeLine
    omega
  have cq : c ≠ q := fun z => by rw [z, upd_same] at hc; cases hc
  have hc1 : (upd H p (.dK [])) c = none := by rw [upd_ne cq] at hc; exact hc
  have cp : c ≠ p := fun z => by rw [z, upd_same] at hc1; cases hc1
  have hc0 : H c = none := by rw [upd_ne cp] at hc1; exact hc1
  refine ⟨?_, [(.inr "cells", .ref c), (.inr "at", .int 0), (.inr "left", .int 0), (.inr "used", .int 0)], rfl, (by show 4 ≤ 15; decide), ?_⟩
  · rw [upd_ne (Ne.symm cp), upd_ne (Ne.symm qp), upd_same]
  refine k _ p (fun b o e => ?_) hp ⟨c, ns ++ [0], 0, 0, 0, ?_, ?_, by simp, by decide, by decide, by decide, by decide⟩
  · rw [upd_ne (ne_of_none e hp), upd_ne (ne_of_none e hc0), upd_ne (ne_of_none e hq0), upd_ne (ne_of_none e hp)]
    exact e
  · rw [upd_same]
    rfl
  · rw [upd_ne cp, upd_same, List.map_append]
    rfl
theorem scMixed : FnScope ["_law_cell", "_law_k", "_law_mixed_here"] ["_law_cell", "_law_k"] (defScope sMixed) := ⟨rfl, rfl, rfl, by decide +kernel, rfl, by decide +kernel, by decide +kernel⟩
theorem ok_mixed (B : Bl mg) (F : FnA K mg "_law_mixed" sMixed) : C8.Cal P w K mg base 1 "_law_mixed" spMixed [] := by
  refine F.cal scMixed (fun _ _ _ _ _ _ us hl => match us, hl with | [_, _], _ => rfl) (fun vs H Q E h => by obtain ⟨c, k, rfl, _⟩ := h; rfl) fun f cdv A outer s H vs Q E hr h => ?_
  refine ⟨_, pss_cons (ps_set (i := 2) scMixed.nd rfl (Or.inl rfl) (pe_op op_mod (pe_i B (pe_op op_add (pe_op op_add (pe_op op_add (pe_op op_mod (pe_i B (pv 0)) pe_int) (pe_op op_mul (pe_op op_mul pe_int (pv 1)) (pv 1))) (pe_op op_mul pe_int (pv 1))) pe_int)) pe_int))
    (pss_cons (ps_set (i := 2) scMixed.nd rfl (Or.inl rfl) (pe_op op_mod (pe_i B (pe_op op_mul (pe_op op_mod (pe_i B (pe_op op_mul (pv 2) (pv 2))) pe_int) (pv 2))) pe_int))
    (pss_one (ps_ret (pe_op op_fdiv (pe_op op_mod (pe_i B (pe_op op_mul (pv 2) (pe_op op_add pe_int (pe_op op_mul pe_int (pe_op op_mod (pe_i B (pv 1)) pe_int))))) pe_int) pe_int)))), ?_⟩
  obtain ⟨c, k, rfl, h0, h1, kk⟩ := h
  have hk : CMul (7919 * k) k := .inr ⟨by omega, by omega⟩
  have B1 : ∀ e y : Int, CMul (e % 2147483647) y := fun e y => .inl ⟨by omega, by omega⟩
  have B2 : ∀ e y : Int, CMul (e % 2147483629) y := fun e y => .inl ⟨by omega, by omega⟩
  refine ⟨_, rfl, _, rfl, _, _, rfl, rfl, (by show (0 : Int) < _; decide), _, rfl, _, _, rfl, rfl, (.inl (by decide)), _, rfl, _, _, rfl, rfl, hk, _, _, rfl, rfl, _, rfl, _, _, rfl, rfl, (.inl (by decide)), _, _, rfl, rfl, _, _, rfl, rfl, _, rfl, _, _, rfl, rfl, (by show (0 : Int) < _; decide), ?_⟩
  refine ⟨_, rfl, _, rfl, _, _, rfl, rfl, B1 _ _, _, rfl, _, _, rfl, rfl, (by show (0 : Int) < _; decide), _, rfl, _, _, rfl, rfl, B1 _ _, _, rfl, _, _, rfl, rfl, (by show (0 : Int) < _; decide), ?_⟩
  exact ⟨_, rfl, _, rfl, _, rfl, _, _, rfl, rfl, (by show (0 : Int) < _; decide), _, _, rfl, rfl, (.inl (by decide)), _, _, rfl, rfl, _, _, rfl, rfl, B2 _ _, _, rfl, _, _, rfl, rfl, (by show (0 : Int) < _; decide), _, _, rfl, rfl, (by show (0 : Int) < 7 ∧ (7 : Int) < 1073741824; decide), kk _⟩
end
end K39
/-! L2x -/
set_option maxHeartbeats 2000000
/-! the draw: next -/
namespace K39
open PySem PySem.Spec PyProof.Rows L2

abbrev dr (c : Addr) (a l u : Int) : List (Key × V) := [(.inr "cells", .ref c), (.inr "at", .int a), (.inr "left", .int l), (.inr "used", .int u)]
section
variable {c : Addr} {a l u z : Int}
theorem dr_cells : valV (dr c a l u) (.inr "cells") = some (.ref c) := by rfl
theorem dr_at : valV (dr c a l u) (.inr "at") = some (.int a) := by rfl
theorem dr_left : valV (dr c a l u) (.inr "left") = some (.int l) := by rfl
theorem dr_used : valV (dr c a l u) (.inr "used") = some (.int u) := by rfl
theorem dr_pat : putK (dr c a l u) (.inr "at") (.int z) = dr c z l u := by rfl
theorem dr_pleft : putK (dr c a l u) (.inr "left") (.int z) = dr c a z u := by rfl
theorem dr_pused : putK (dr c a l u) (.inr "used") (.int z) = dr c a l z := by rfl
end
section
variable {P : Program} {w : World} {K : PySem.W.Frag} {mg : Str → Option Value} {base : Heap}
theorem scNext : FnScope ["_law_draw", "_law_bound", "_law_found", "_law_every", "_law_cell"] ["_law_draw", "_law_bound"] (defScope sNext) := ⟨rfl, rfl, rfl, by decide +kernel, rfl, by decide +kernel, by decide +kernel⟩
theorem dgS {H : Hp} {d : Addr} {kvs : List (Key × V)} {k : Str} {v : V} (h : H d = some (.dK kvs)) (e : valV kvs (.inr k) = some v) : DGet H d (.str k) (some v) := by
  rw [← e]
  exact .k (k := .inr k) h
theorem dpS {H : Hp} {d : Addr} {kvs kvs' : List (Key × V)} {k : Str} {v : V} (h : H d = some (.dK kvs)) (hl : kvs.length < sizeLine) (e : putK kvs (.inr k) v = kvs') : DPut H d (.str k) v (upd H d (.dK kvs')) := by
  rw [← e]
  exact .k (k := .inr k) h hl
theorem four : (4 : Nat) < sizeLine := by rw [sizeLine_eq]; decide
theorem but_upd {H : Hp} {d : Addr} {o : HO} : But d H (upd H d o) := fun b o n h => by rw [upd_ne n]; exact h
theorem ok_next (B : Bl mg) (F : FnA K mg "_law_next" sNext) (M : C8.Cal P w K mg base 1 "_law_mixed" spMixed []) : C8.Cal P w K mg base 2 "_law_next" spNext [] := by
  refine F.cal scNext (fun _ _ _ _ _ _ us hl => match us, hl with | [_, _], _ => rfl) (fun vs H Q E h => by obtain ⟨d, b, m, rfl, _⟩ := h; rfl) fun f cdv A outer s H vs Q E hr h => ?_
  have hu := hu_of hr
  have gd : ∀ (ky : Str) {p1 p2 pos : Pos} {j : Nat}, PE (cxOf CX0 P w K mg base ["_law_draw", "_law_bound", "_law_found", "_law_every", "_law_cell"] "_law_next" (defScope sNext) f cdv A outer s H E).nox (.Subscript (.Name "_law_draw" p1) (.Constant (.str ky) j p2) pos) (tDGet (tVar 0) (tC (.str ky))) :=
    fun ky {p1 p2 pos j} => pe_dget hu (pv 0) pe_str (fun _ _ => rfl)
  refine ⟨_, pss_cons (ps_if (pt_cmpR op_gt (gd "left") pe_int (nomark _))
      (pss_cons (ps_set (i := 2) scNext.nd rfl (Or.inl rfl) (pe_op op_mod (pe_i B (gd "left")) (pv 1)))
      (pss_cons (ps_dput hu (pv 0) pe_str (pe_op op_fdiv (gd "left") (pv 1)) (by rfl))
      (pss_one (ps_ret (pv 2))))) pss_nil)
    (pss_cons (ps_set (i := 3) scNext.nd rfl (Or.inl rfl) (gd "cells"))
    (pss_cons (ps_set (i := 4) scNext.nd rfl (Or.inl rfl) (pe_ix ix_list (pv 3) (pe_op op_mod (pe_i B (gd "at")) (pe_lenS B (pv 3))) (fun _ _ => rfl)))
    (pss_cons (ps_dput hu (pv 0) pe_str (pe_op op_add (gd "at") pe_int) (by rfl))
    (pss_cons (ps_if (PW.pt (pw_and (pt_cmpR op_ge (pv 4) (pe_op op_pow pe_int pe_int) (nomark _)) (pw_and1 (pt_cmpR op_le (gd "at") (pe_lenS B (pv 3)) (nomark _)))))
      (pss_cons (ps_dput hu (pv 0) pe_str (pe_op op_fdiv (pv 4) (pv 1)) (by rfl)) (pss_one (ps_ret (pe_op op_mod (pe_i B (pv 4)) (pv 1))))) pss_nil)
    (pss_cons (ps_dput hu (pv 0) pe_str (pe_op op_add (gd "used") pe_int) (by rfl))
    (pss_one (ps_ret (pe_op op_mod (pe_i B (C8.pe_c M hr (by decide) (by rfl) (pa_cons (C8.pe_c M hr (by decide) (by rfl) (pa_cons (pv 4) (pa_cons (gd "at") pa_nil))) (pa_cons (gd "used") pa_nil)))) (pv 1))))))))), ?_⟩
  obtain ⟨d, b, m, rfl, hb0, hb1, ⟨c, cells, a, l, u, hd, hc, hne, a0, am, u0, um⟩, hm, k⟩ := h
  have dc : d ≠ c := ne_of hd hc (by simp)
  have res : ∀ z : Int, 0 ≤ z % b ∧ z % b < b := fun z => ⟨Int.emod_nonneg _ (by omega), Int.emod_lt_of_pos _ hb0⟩
  have dv : ∀ z : Int, CDiv z b := fun z => ⟨hb0, hb1⟩
  refine ⟨_, rfl, _, _, rfl, dgS hd dr_left, _, _, rfl, rfl, _, rfl, ?_⟩
  by_cases hl : l > 0
  · rw [decide_eq_true (show (0 : Int) < l from hl)]
    refine iteT ?_
    refine ⟨_, rfl, _, _, rfl, dgS hd dr_left, _, rfl, _, rfl, _, _, rfl, rfl, hb0, ?_⟩
    refine ⟨_, rfl, _, _, rfl, dgS hd dr_left, _, rfl, _, _, rfl, rfl, dv _, _, rfl, _, _, rfl, dpS hd four dr_pleft, ?_⟩
    exact ⟨_, rfl, k _ _ but_upd ⟨c, cells, a, _, u, upd_same, by rw [upd_ne (Ne.symm dc)]; exact hc, hne, a0, by omega, u0, by omega⟩ (res l).1 (res l).2⟩
  · rw [decide_eq_false (show ¬ (0 : Int) < l from hl)]
    refine iteF ?_
    have hlen : 0 < cells.length := List.length_pos_iff.mpr hne
    refine ⟨_, rfl, _, _, rfl, dgS hd dr_cells, ?_⟩
    have hix : 0 ≤ a % ((cells.map V.int).length : Int) ∧ a % ((cells.map V.int).length : Int) < ((cells.map V.int).length : Int) := by
      rw [List.length_map]
      exact ⟨Int.emod_nonneg _ (by omega), Int.emod_lt_of_pos _ (by omega)⟩
    obtain ⟨j, hj⟩ : ∃ j : Nat, a % ((cells.map V.int).length : Int) = (j : Int) := ⟨_, (Int.toNat_of_nonneg hix.1).symm⟩
    have hjl : j < cells.length := by
      have := hix.2
      rw [hj, List.length_map] at this
      omega
    have hcell : (cells.map V.int)[j]? = some (V.int cells[j]) := by
      rw [List.getElem?_map, List.getElem?_eq_getElem hjl] <;> rfl
    refine ⟨_, rfl, _, rfl, _, _, rfl, dgS hd dr_at, _, rfl, _, rfl, _, _, rfl, .inl (.of hc), _, _, rfl, rfl, (by rw [List.length_map]; omega), _, _, _, _, rfl, rfl, .of hc, at_of hj hcell, ?_⟩
    refine ⟨_, rfl, _, _, rfl, dgS hd dr_at, _, _, rfl, rfl, _, rfl, _, _, rfl, dpS hd four dr_pat, ?_⟩
    have last : ∀ {H1 : Hp}, upd H d (.dK (dr c (a + 1) l u)) = H1 → tSeq (sDPut (tVar 0) (tC (.str "used")) (tOp (rI0 fun i j => .int (i + j)) (tDGet (tVar 0) (tC (.str "used"))) (tC (.int 1))))
        (tRet (tOp (rI (fun _ j => 0 < j) fun i j => .int (i % j)) (tCB rInt1 (tCons (tCall spMixed [] C8.E0 (tCons (tCall spMixed [] C8.E0 (tCons (tVar 4) (tCons (tDGet (tVar 0) (tC (.str "at"))) tNil))) (tCons (tDGet (tVar 0) (tC (.str "used"))) tNil))) tNil)) (tVar 1)))
        { nx := fun _ H' => Q .non H', rt := Q } [some (.ref d), some (.int b), none, some (.ref c), some (.int cells[j])] H1 := fun {H1} hH1 => by
      have hd1 : H1 d = some (.dK (dr c (a + 1) l u)) := by rw [← hH1]; exact upd_same
      have hc1 : H1 c = some (.lst (cells.map V.int)) := by rw [← hH1, upd_ne (Ne.symm dc)]; exact hc
      have bt1 : But d H H1 := by rw [← hH1]; exact but_upd
      refine ⟨_, rfl, _, _, rfl, dgS hd1 dr_used, _, _, rfl, rfl, _, rfl, _, _, rfl, dpS hd1 four dr_pused, ?_⟩
      have hd2 : (upd H1 d (.dK (dr c (a + 1) l (u + 1)))) d = some (.dK (dr c (a + 1) l (u + 1))) := upd_same
      refine ⟨_, rfl, _, rfl, _, _, rfl, dgS hd2 dr_at, _, _, rfl, by omega, by omega, fun r1 => ?_⟩
      refine ⟨_, rfl, _, _, rfl, dgS hd2 dr_used, _, _, rfl, by omega, by omega, fun r2 => ?_⟩
      exact ⟨_, rfl, _, rfl, _, _, rfl, rfl, hb0, k _ _ (bt1.trans but_upd) ⟨c, cells, _, _, _, upd_same, by rw [upd_ne (Ne.symm dc)]; exact hc1, hne, by omega, by omega, by omega, by omega⟩ (res _).1 (res _).2⟩
    generalize hH1 : upd H d (.dK (dr c (a + 1) l u)) = H1
    have hd1 : H1 d = some (.dK (dr c (a + 1) l u)) := by rw [← hH1]; exact upd_same
    have hc1 : H1 c = some (.lst (cells.map V.int)) := by rw [← hH1, upd_ne (Ne.symm dc)]; exact hc
    have bt1 : But d H H1 := by rw [← hH1]; exact but_upd
    refine ⟨_, rfl, _, _, rfl, rfl, (by show 0 ≤ (18 : Int) ∧ (18 : Int) ≤ 1000000 ∧ (10 : Int).natAbs < 2 ^ 64; decide), _, _, rfl, rfl, _, rfl, ?_⟩
    by_cases h18 : (10 : Int) ^ (18 : Int).toNat ≤ cells[j]
    · rw [decide_eq_true h18]
      refine iteT ?_
      refine ⟨_, rfl, _, _, rfl, dgS hd1 dr_at, _, rfl, _, _, rfl, .inl (.of hc1), _, _, rfl, rfl, _, rfl, ?_⟩
      refine ite2 (fun _ => ?_) fun _ => ?_
      · refine ⟨_, rfl, _, rfl, _, _, rfl, rfl, dv _, _, rfl, _, _, rfl, dpS hd1 four dr_pleft, ?_⟩
        exact ⟨_, rfl, _, rfl, _, rfl, _, _, rfl, rfl, hb0, k _ _ (bt1.trans but_upd) ⟨c, cells, _, _, u, upd_same, by rw [upd_ne (Ne.symm dc)]; exact hc1, hne, by omega, by omega, u0, by omega⟩ (res _).1 (res _).2⟩
      · exact last hH1
    · rw [decide_eq_false h18]
      refine iteF ?_
      refine iteF ?_
      exact last hH1
end
end K39
/-! L3 -/
set_option maxHeartbeats 4000000
/-! the ids -/
namespace K39
open PySem PySem.Spec PyProof.Rows L2

abbrev Low (c : Nat) : Prop := 97 ≤ c ∧ c ≤ 122
abbrev Sgn (c : Nat) : Prop := (97 ≤ c ∧ c ≤ 122) ∨ (48 ≤ c ∧ c ≤ 57)
/-- an id's signs -/
def IdL (l : List Nat) : Prop := l.length ≤ 16 ∧ (∃ c r, l = c :: r ∧ Low c) ∧ ∀ z ∈ l, Sgn z
def IdOk (x : Str) : Prop := IdL x.cps.toList
theorem joinL_ones : ∀ cs : List Nat, TL.joinL [] (cs.map fun c => [c]) = cs
  | [] => rfl
  | [c] => rfl
  | c :: d :: r => by
    have ih := joinL_ones (d :: r)
    show [c] ++ ([] ++ TL.joinL [] ((d :: r).map fun c => [c])) = c :: d :: r
    rw [ih]
    rfl
abbrev one (c : Nat) : Str := ⟨#[c]⟩
theorem join_ones (cs : List Nat) : Txt.join (SX.S []) (cs.map one) = SX.S cs := by
  have e : cs.map one = (cs.map fun c => [c]).map SX.S := by
    rw [List.map_map]
    rfl
  rw [e, SX.join_S, joinL_ones]
theorem S_cps (l : List Nat) : (SX.S l).cps.toList = l := by simp [SX.S]
theorem but_new {d p : Addr} {H : Hp} {o : HO} (h : H p = none) : But d H (upd H p o) := fun b u _ e => by rw [upd_ne (ne_of_none e h)]; exact e
theorem draw_new {d p : Addr} {H : Hp} {o : HO} {m : Nat} (h : H p = none) (D : DrawOk H d m) : DrawOk (upd H p o) d m := by
  obtain ⟨c, cells, a, l, u, h1, h2, r⟩ := D
  exact ⟨c, cells, a, l, u, by rw [upd_ne (ne_of_none h1 h)]; exact h1, by rw [upd_ne (ne_of_none h2 h)]; exact h2, r⟩
/-- another list than the numbers is written -/
theorem draw_lst {d p : Addr} {H : Hp} {xs ys : List V} {m : Nat} (h : H p = some (.lst xs)) (hx : ∀ (v : V), xs.head? = some v → ∀ i, v ≠ .int i) (D : DrawOk H d m) : DrawOk (upd H p (.lst ys)) d m := by
  obtain ⟨c, cells, a, l, u, h1, h2, hne, r⟩ := D
  refine ⟨c, cells, a, l, u, by rw [upd_ne (ne_of h1 h (by simp))]; exact h1, ?_, hne, r⟩
  rw [upd_ne]
  · exact h2
  · intro e
    rw [e, h] at h2
    have e2 : xs = cells.map V.int := by
      have := Option.some.inj h2
      injection this
    cases cells with
    | nil => exact hne rfl
    | cons i r => exact hx (.int i) (by rw [e2]; rfl) i rfl
theorem but_ne {d p : Addr} {H : Hp} {o : HO} {m : Nat} (D : DrawOk H d m) (h : H p = some o) (hn : ∀ kvs, o ≠ .dK kvs) : p ≠ d := by
  obtain ⟨c, cells, a, l, u, h1, _⟩ := D
  intro e
  rw [e, h1] at h
  exact hn _ (Option.some.inj h).symm
theorem was_free {d p : Addr} {H H' : Hp} {m : Nat} (b : But d H H') (D : DrawOk H' d m) (h : H' p = none) : H p = none := by
  cases e : H p with
  | none => rfl
  | some o =>
    have n : p ≠ d := by
      obtain ⟨c, cells, a, l, u, h1, _⟩ := D
      exact fun z => by rw [z, h1] at h; cases h
    rw [b p o n e] at h
    cases h
theorem pick {l : List Nat} {p : Nat → Prop} (hp : ∀ c ∈ l, p c) {r : Int} (h0 : 0 ≤ r) (h1 : r < l.length) : ∃ c, atI l r = some c ∧ p c := by
  obtain ⟨j, rfl⟩ : ∃ j : Nat, r = (j : Int) := ⟨_, (Int.toNat_of_nonneg h0).symm⟩
  have hj : j < l.length := by omega
  exact ⟨l[j], atI_nat (List.getElem?_eq_getElem hj), hp _ (List.getElem_mem hj)⟩
abbrev Six (c : Nat) : Prop := c ∈ ([97, 98, 113, 122, 48, 55] : List Nat)
theorem low4 : ∀ c ∈ ("abqz" : Str).cps.toList, Low c ∧ Six c := by decide +kernel
theorem sgn6 : ∀ c ∈ ("abqz07" : Str).cps.toList, Sgn c ∧ Six c := by decide +kernel
theorem nobody_l : ("nobody" : Str).cps.toList = [110, 111, 98, 111, 100, 121] := by decide +kernel
/-- no such id is 'nobody' -/
theorem not_nobody {rs : List Nat} {k c : Nat} (hs : ∀ z ∈ rs, Six z) (hk : k < rs.length) : rs.take k ++ [c] ++ rs.drop (k + 1) ≠ ("nobody" : Str).cps.toList := fun e => by
  rw [nobody_l] at e
  cases k with
  | zero =>
    have e2 : c :: rs.drop 1 = [110, 111, 98, 111, 100, 121] := e
    injection e2 with _ e2
    have h1 : 111 ∈ rs := List.mem_of_mem_drop (i := 1) (by rw [e2]; simp)
    exact absurd (hs _ h1) (by decide)
  | succ j =>
    cases rs with
    | nil => exact absurd hk (Nat.not_lt_zero _)
    | cons a r =>
      have e2 : a :: (r.take j ++ [c] ++ r.drop (j + 1)) = [110, 111, 98, 111, 100, 121] := e
      injection e2 with e2 _
      exact absurd (hs a List.mem_cons_self) (by rw [e2]; decide)
theorem low26 : ∀ c ∈ ("abcdefghijklmnopqrstuvwxyz" : Str).cps.toList, Low c := by decide +kernel
theorem Low.sgn {c : Nat} (h : Low c) : Sgn c := .inl h
theorem cut_lo {xs : List V} {k : Nat} (h : k ≤ xs.length) : cutV xs none (some (k : Int)) = xs.take k := by
  unfold cutV
  rw [HT.sIx_none, HT.sIx_nat, Nat.min_eq_left h, List.drop_zero, Nat.sub_zero]
theorem cut_hi {xs : List V} {k : Nat} (h : k ≤ xs.length) : cutV xs (some (k : Int)) none = xs.drop k := by
  unfold cutV
  rw [HT.sIx_none, HT.sIx_nat, Nat.min_eq_left h, List.take_of_length_le (by rw [List.length_drop]; omega)]
theorem ones_sum : ∀ cs : List Nat, ((cs.map one).map (·.length)).sum = cs.length
  | [] => rfl
  | c :: r => by
    have ih := ones_sum r
    show 1 + ((r.map one).map (·.length)).sum = r.length + 1
    rw [ih, Nat.add_comm]
/-- a list of signs, as values -/
abbrev sgV (cs : List Nat) : List V := cs.map fun c => V.str (one c)
theorem sgV_str (cs : List Nat) : sgV cs = (cs.map one).map V.str := by
  rw [List.map_map]
  rfl
theorem small_sz {n : Nat} (h : n ≤ 1000) : n ≤ sizeLine := Nat.le_of_lt (small1000 h)
/-- a mark put at the spot -/
theorem idl_put {rs : List Nat} {k c : Nat} (hl : rs.length ≤ 16) (hk : k < rs.length) (h0 : ∃ a r, rs = a :: r ∧ Low a) (hs : ∀ z ∈ rs, Sgn z) (hc : Low c) : IdL (rs.take k ++ [c] ++ rs.drop (k + 1)) := by
  obtain ⟨a, r, rfl, ha⟩ := h0
  refine ⟨?_, ?_, fun z hz => ?_⟩
  · rw [List.length_append, List.length_append, List.length_take, List.length_drop, List.length_singleton]
    omega
  · cases k with
    | zero => exact ⟨c, r, rfl, hc⟩
    | succ j => exact ⟨a, _, rfl, ha⟩
  · rcases List.mem_append.mp hz with hz | hz
    · rcases List.mem_append.mp hz with hz | hz
      · exact hs z (List.mem_of_mem_take hz)
      · rw [List.mem_singleton.mp hz]; exact hc.sgn
    · exact hs z (List.mem_of_mem_drop hz)
def spIds : Sp := fun vs H Q _ => ∃ (d : Addr) (n m : Nat), vs = [.ref d, .int n] ∧ n ≤ 100 ∧ DrawOk H d m ∧ m < 900000 ∧
  ∀ (H' : Hp) (p : Addr) (ids : List Str), But d H H' → DrawOk H' d (m + 20) → H p = none → H' p = some (.lst (ids.map V.str)) → ids.length = n → (∀ x ∈ ids, IdOk x ∧ x ≠ "nobody") → Q (.ref p) H'
section
variable {P : Program} {w : World} {K : PySem.W.Frag} {mg : Str → Option Value} {base : Heap}
abbrev nIds : List Str := ["_law_draw", "_law_many", "_law_size", "_law_spot", "_law_shift", "_law_rest", "_law_found", "_law_k", "_law_mark"]
theorem scIds : FnScope nIds ["_law_draw", "_law_many"] (defScope sIds) := ⟨rfl, rfl, rfl, by decide +kernel, rfl, by decide +kernel, by decide +kernel⟩
theorem ok_ids (B : Bl mg) (F : FnA K mg "_law_ids" sIds) (N : C8.Cal P w K mg base 2 "_law_next" spNext []) : C8.Cal P w K mg base 3 "_law_ids" spIds [] := by
  refine F.cal scIds (fun _ _ _ _ _ _ us hl => match us, hl with | [_, _], _ => rfl) (fun vs H Q E h => by obtain ⟨d, b, m, rfl, _⟩ := h; rfl) fun f cdv A outer s H vs Q E hr h => ?_
  refine ⟨_, pss_cons (ps_set (i := 2) scIds.nd rfl (Or.inl rfl) (pe_op op_add pe_int (C8.pe_c N hr (by decide) (by rfl) (pa_cons (pv 0) (pa_cons pe_int pa_nil)))))
    (pss_cons (ps_par rfl scIds.nd (i := 3) (j := 4) rfl rfl (by decide) rfl rfl (pa_cons (C8.pe_c N hr (by decide) (by rfl) (pa_cons (pv 0) (pa_cons (pv 2) pa_nil))) (pa_cons (C8.pe_c N hr (by decide) (by rfl) (pa_cons (pv 0) (pa_cons pe_int pa_nil))) pa_nil)) (by rfl))
    (pss_cons (ps_set (i := 5) scIds.nd rfl (Or.inl rfl) (pe_op op_cat (pe_lst (pa_cons (pe_ix ix_str pe_str (C8.pe_c N hr (by decide) (by rfl) (pa_cons (pv 0) (pa_cons pe_int pa_nil))) (fun _ _ => rfl)) pa_nil))
      (pe_lc (own := [("_law_k", 7)]) (g := gName 7) (tt := tYes) rfl scIds.nd (pi_range1 rfl B.range (pa_cons (pe_op op_sub (pv 2) pe_int) pa_nil)) (blkOk_by (own := [("_law_k", 7)]) (N := nIds) (sc := defScope sIds) (by decide +kernel))
        (fun _ _ _ _ _ => pg_name (i := 7) scIds.nd rfl (Or.inl rfl)) (fun _ _ _ _ _ => pts_nil) (fun _ _ _ _ _ => pe_ix ix_str pe_str (C8.pe_c N hr (by decide) (by rfl) (pa_cons (pv 0) (pa_cons pe_int pa_nil))) (fun _ _ => rfl)))))
    (pss_cons (ps_set (i := 6) scIds.nd rfl (Or.inl rfl) (pe_lst pa_nil))
    (pss_cons (ps_for PassesOwn.never rfl (pi_range1 (by rfl) B.range (pa_cons (pv 1) pa_nil)) (pg_name (i := 7) scIds.nd rfl (Or.inl rfl))
      (pss_cons (ps_set (i := 8) scIds.nd rfl (Or.inl rfl) (pe_ix ix_str pe_str (pe_op op_mod (pe_i B (pe_op op_add (pe_op op_mul pe_int (pv 7)) (pv 4))) pe_int) (fun _ _ => rfl)))
      (pss_one (ps_expr (pe_bm PySem.F.plainAttrs_list PySem.F.slot_list_append PySem.F.type_list_append mt_append (pv 6) (pa_cons (pe_join pe_str (pe_op op_cat (pe_op op_cat (pe_slice sl_list (pv 5) po_none (po_some (pv 3))) (pe_lst (pa_cons (pv 8) pa_nil))) (pe_slice sl_list (pv 5) (po_some (pe_op op_add (pv 3) pe_int)) po_none))) pa_nil))))))
    (pss_one (ps_ret (pv 6))))))), ?_⟩
  obtain ⟨d, n, m, rfl, hn, hd, hm, k⟩ := h
  refine ⟨_, rfl, d, 15, m, rfl, by decide, by decide, hd, by omega, fun H1 r1 b1 d1 lo1 hi1 => ?_⟩
  refine ⟨_, _, rfl, rfl, ?_⟩
  obtain ⟨z, rfl⟩ : ∃ z : Nat, r1 = (z : Int) - 2 := ⟨(r1 + 2).toNat, by omega⟩
  refine ⟨_, rfl, _, rfl, d, _, m + 1, rfl, by omega, by omega, d1, by omega, fun H2 r2 b2 d2 lo2 hi2 => ?_⟩
  refine ⟨_, rfl, d, 26, m + 2, rfl, by decide, by decide, d2, by omega, fun H3 r3 b3 d3 lo3 hi3 => ?_⟩
  refine ⟨_, _, rfl, ?_⟩
  obtain ⟨sp, rfl⟩ : ∃ z : Nat, r2 = (z : Int) := ⟨_, (Int.toNat_of_nonneg lo2).symm⟩
  -- the first sign
  refine ⟨_, rfl, d, 4, m + 3, rfl, by decide, by decide, d3, by omega, fun H4 r4 b4 d4 lo4 hi4 => ?_⟩
  obtain ⟨c0, at0, l0, x0⟩ := pick low4 lo4 (show r4 < (("abqz" : Str).cps.toList.length : Int) from hi4)
  refine ⟨_, _, c0, rfl, rfl, (by show 4 ≤ sizeLine; exact small_sz (by decide)), at0, ?_⟩
  refine ⟨(by show 1 ≤ sizeLine; exact small_sz (by decide)), fun a1 ha1 => ?_⟩
  have d5 : DrawOk (upd H4 a1 (.lst [.str (one c0)])) d (m + 4) := draw_new ha1 d4
  have at1 : (upd H4 a1 (.lst [.str (one c0)])) a1 = some (.lst [.str (one c0)]) := upd_same
  have b5 : But d H (upd H4 a1 (.lst [.str (one c0)])) := (((b1.trans b2).trans b3).trans b4).trans (but_new ha1)
  generalize hH5 : upd H4 a1 (.lst [.str (one c0)]) = H5 at d5 at1 b5
  have ne1 : a1 ≠ d := but_ne d5 at1 (by simp)
  -- the others
  refine ⟨_, rfl, _, _, rfl, rfl, _, rfl, by omega, by omega, fun D hD => ?_⟩
  refine lc_range (lo := 0) (n := (2 + ((z : Int) - 2) - 1).toNat) (fun i H' => ∃ cs : List Nat, cs.length = i ∧ (∀ c ∈ cs, Sgn c ∧ Six c) ∧ H' D = some (.lst (sgV cs)) ∧ But d H5 H' ∧ DrawOk H' d (m + 4 + i)) ⟨[], rfl, by simp, upd_same, but_new hD, draw_new hD d5⟩ ?_ ?_
  · rintro i H6 hi ⟨cs, hcs, hsg, hD6, b6, d6⟩
    refine ⟨rfl, ?_⟩
    refine ⟨_, rfl, d, 6, m + 4 + i, rfl, by decide, by decide, d6, by omega, fun H7 r7 b7 d7 lo7 hi7 => ?_⟩
    obtain ⟨c7, at7, s7⟩ := pick sgn6 lo7 (show r7 < (("abqz07" : Str).cps.toList.length : Int) from hi7)
    have neD : D ≠ d := but_ne d6 hD6 (by simp)
    have hD7 := b7 _ _ neD hD6
    refine ⟨_, _, c7, rfl, rfl, (by show 6 ≤ sizeLine; exact small_sz (by decide)), at7, sgV cs, hD7, ?_, cs ++ [c7], by simp [hcs], ?_, ?_, ?_, ?_⟩
    · rw [List.length_map]
      exact small1000 (by omega)
    · intro c hc
      rcases List.mem_append.mp hc with hc | hc
      · exact hsg c hc
      · rw [List.mem_singleton.mp hc]; exact s7
    · rw [upd_same]
      simp [sgV]
    · intro b o nb e
      rw [upd_ne (ne_of_none e hD)]
      exact b7 b o nb (b6 b o nb e)
    · exact draw_lst hD7 (fun v hv i e => by cases cs <;> simp at hv; subst hv; cases e) d7
  · rintro H6 ⟨cs, hcs, hsg, hD6, b6, d6⟩
    have at6 := b6 _ _ ne1 at1
    refine ⟨a1, D, _, _, rfl, rfl, at6, hD6, ?_, fun p5 hp5 => ?_⟩
    · rw [List.length_map]
      show 1 + cs.length ≤ sizeLine
      exact small_sz (by omega)
    -- all of them
    have d7 : DrawOk (upd H6 p5 (.lst ([V.str (one c0)] ++ sgV cs))) d (m + 20) := (draw_new hp5 d6).mono (by omega)
    have b7 : But d H (upd H6 p5 (.lst ([V.str (one c0)] ++ sgV cs))) := (b5.trans b6).trans (but_new hp5)
    have at7 : (upd H6 p5 (.lst ([V.str (one c0)] ++ sgV cs))) p5 = some (.lst (sgV (c0 :: cs))) := upd_same
    generalize upd H6 p5 (.lst ([V.str (one c0)] ++ sgV cs)) = H7 at d7 b7 at7
    have hrs : (c0 :: cs).length = z := by
      rw [List.length_cons, hcs]
      omega
    have sg : ∀ y ∈ c0 :: cs, Sgn y := fun y hy => by
      rcases List.mem_cons.mp hy with rfl | hy
      · exact l0.sgn
      · exact (hsg y hy).1
    have sx : ∀ y ∈ c0 :: cs, Six y := fun y hy => by
      rcases List.mem_cons.mp hy with rfl | hy
      · exact x0
      · exact (hsg y hy).2
    refine ⟨Nat.zero_le _, fun p6 hp6 => ?_⟩
    have hnew : H p6 = none := was_free b7 d7 hp6
    have d8 : DrawOk (upd H7 p6 (.lst [])) d (m + 20) := draw_new hp6 d7
    have b8 : But d H (upd H7 p6 (.lst [])) := b7.trans (but_new hp6)
    have at8 : (upd H7 p6 (.lst [])) p5 = some (.lst (sgV (c0 :: cs))) := by rw [upd_ne (ne_of_none at7 hp6)]; exact at7
    have f8 : (upd H7 p6 (.lst [])) p6 = some (.lst []) := upd_same
    have n56 : p5 ≠ p6 := ne_of_none at7 hp6
    generalize upd H7 p6 (.lst []) = H8 at d8 b8 at8 f8
    refine ⟨_, rfl, (n : Int), rfl, by omega, by omega, for_range (lo := 0) (n := (n : Int).toNat) (fun i σ H' => ∃ (ids : List Str) (x7 x8 : Option V), ids.length = i ∧ (∀ x ∈ ids, IdOk x ∧ x ≠ "nobody") ∧ σ = [some (.ref d), some (.int n), some (.int (2 + ((z : Int) - 2))), some (.int sp), some (.int r3), some (.ref p5), some (.ref p6), x7, x8] ∧
      H' p6 = some (.lst (ids.map V.str)) ∧ H' p5 = some (.lst (sgV (c0 :: cs))) ∧ But d H H' ∧ DrawOk H' d (m + 20)) ⟨[], none, none, rfl, by simp, rfl, f8, at8, b8, d8⟩ ?_ ?_⟩
    · rintro i σ H9 hi ⟨ids, x7, x8, hids, hok, rfl, f9, at9, b9, d9⟩
      have hi' : i < n := by omega
      obtain ⟨c, hat, hlow⟩ := pick low26 (Int.emod_nonneg (5 * (0 + (i : Int)) + r3) (by decide)) (show (5 * (0 + (i : Int)) + r3) % 26 < (("abcdefghijklmnopqrstuvwxyz" : Str).cps.toList.length : Int) from Int.emod_lt_of_pos _ (by decide))
      refine ⟨_, rfl, _, _, rfl, rfl, (.inl (by decide)), _, rfl, _, _, rfl, rfl, _, rfl, _, _, rfl, rfl, (by show (0 : Int) < _; decide), _, _, c, rfl, rfl, (by show 26 ≤ sizeLine; exact small_sz (by decide)), hat, ?_⟩
      have hsp : sp < (c0 :: cs).length := by omega
      have e1 : cutV (sgV (c0 :: cs)) none (some (sp : Int)) = sgV ((c0 :: cs).take sp) := by
        rw [cut_lo (by rw [List.length_map]; omega)]
        exact List.map_take.symm
      have e2 : cutV (sgV (c0 :: cs)) (some ((sp : Int) + 1)) none = sgV ((c0 :: cs).drop (sp + 1)) := by
        rw [show (sp : Int) + 1 = ((sp + 1 : Nat) : Int) by omega, cut_hi (by rw [List.length_map]; omega)]
        exact List.map_drop.symm
      refine ⟨_, rfl, .inl ⟨rfl, _, .of f9⟩, ⟨_, rfl⟩, _, rfl, _, rfl, _, rfl, _, _, rfl, .of at9, fun q1 hq1 => ?_⟩
      rw [e1]
      have g1 : (upd H9 q1 (.lst (sgV ((c0 :: cs).take sp)))) q1 = some (.lst (sgV ((c0 :: cs).take sp))) := upd_same
      refine ⟨_, rfl, (by show 1 ≤ sizeLine; exact small_sz (by decide)), fun q2 hq2 => ?_⟩
      have l9 : (c0 :: cs).length ≤ 16 := by omega
      refine ⟨q1, q2, _, _, rfl, rfl, (by rw [upd_ne (ne_of_none g1 hq2)]; exact g1), upd_same, ?_, fun q3 hq3 => ?_⟩
      · rw [List.length_map, List.length_take]
        show min sp _ + 1 ≤ sizeLine
        exact small_sz (by omega)
      have f5 : ∀ {Hx : Hp} {q : Addr} {o : HO}, Hx p5 = some (.lst (sgV (c0 :: cs))) → Hx q = none → (upd Hx q o) p5 = some (.lst (sgV (c0 :: cs))) := fun h hn => by rw [upd_ne (ne_of_none h hn)]; exact h
      have f6 : ∀ {Hx : Hp} {q : Addr} {o : HO}, Hx p6 = some (.lst (ids.map V.str)) → Hx q = none → (upd Hx q o) p6 = some (.lst (ids.map V.str)) := fun h hn => by rw [upd_ne (ne_of_none h hn)]; exact h
      refine ⟨_, rfl, _, rfl, _, _, rfl, rfl, _, rfl, _, _, rfl, .of (f5 (f5 (f5 at9 hq1) hq2) hq3), fun q4 hq4 => ?_⟩
      rw [e2]
      have g3 : ∀ {Hx : Hp} {o : HO}, (upd Hx q3 o) q3 = some o := upd_same
      refine ⟨q3, q4, _, _, rfl, rfl, (by rw [upd_ne (ne_of_none (g3 (o := .lst (sgV ((c0 :: cs).take sp) ++ [V.str (one c)]))) hq4)]; exact g3), upd_same, ?_, fun q5 hq5 => ?_⟩
      · rw [List.length_append, List.length_map, List.length_map, List.length_take, List.length_drop]
        show min sp _ + 1 + _ ≤ sizeLine
        exact small_sz (by omega)
      have e5 : sgV ((c0 :: cs).take sp) ++ [V.str (one c)] ++ sgV ((c0 :: cs).drop (sp + 1)) = (((c0 :: cs).take sp ++ [c] ++ (c0 :: cs).drop (sp + 1)).map one).map V.str := by
        rw [← sgV_str]
        simp [sgV]
      have hidl : IdL ((c0 :: cs).take sp ++ [c] ++ (c0 :: cs).drop (sp + 1)) := idl_put l9 hsp ⟨c0, cs, rfl, l0⟩ sg hlow
      have fA := f6 (o := .lst (sgV ((c0 :: cs).take sp) ++ [V.str (one c)] ++ sgV ((c0 :: cs).drop (sp + 1)))) (f6 (f6 (f6 (f6 f9 hq1) hq2) hq3) hq4) hq5
      have dA := draw_new (o := .lst (sgV ((c0 :: cs).take sp) ++ [V.str (one c)] ++ sgV ((c0 :: cs).drop (sp + 1)))) hq5 (draw_new hq4 (draw_new hq3 (draw_new hq2 (draw_new hq1 d9))))
      have bA : But d H _ := ((((b9.trans (but_new hq1)).trans (but_new hq2)).trans (but_new hq3)).trans (but_new hq4)).trans (but_new (o := .lst (sgV ((c0 :: cs).take sp) ++ [V.str (one c)] ++ sgV ((c0 :: cs).drop (sp + 1)))) hq5)
      have aA := f5 (o := .lst (sgV ((c0 :: cs).take sp) ++ [V.str (one c)] ++ sgV ((c0 :: cs).drop (sp + 1)))) (f5 (f5 (f5 (f5 at9 hq1) hq2) hq3) hq4) hq5
      refine ⟨_, q5, _, rfl, rfl, .inl (.of (by rw [← e5]; exact upd_same)), ?_, ?_⟩
      · rw [ones_sum]
        have := hidl.1
        show _ + _ * 0 ≤ 16777216
        omega
      refine ⟨p6, _, _, rfl, rfl, fA, by rw [List.length_map]; exact small1000 (by omega), ?_⟩
      have nd6 : p6 ≠ d := but_ne dA fA (by simp)
      refine ⟨ids ++ [SX.S ((c0 :: cs).take sp ++ [c] ++ (c0 :: cs).drop (sp + 1))], _, _, by simp [hids], ?_, rfl, ?_, ?_, ?_, ?_⟩
      · intro x hx
        rcases List.mem_append.mp hx with hx | hx
        · exact hok x hx
        · rw [List.mem_singleton.mp hx]
          refine ⟨?_, fun e => not_nobody (c := c) sx hsp ?_⟩
          · show IdL _
            rw [S_cps]
            exact hidl
          · rw [← e, S_cps]
      · rw [upd_same, show (Str.ofString "") = SX.S [] from rfl, join_ones]
        simp
      · rw [upd_ne n56]
        exact aA
      · intro b o nb e
        rw [upd_ne (ne_of_none e hnew)]
        exact bA b o nb e
      · exact draw_lst fA (fun v hv i e => by cases ids <;> simp at hv; subst hv; cases e) dA
    · rintro σ H9 ⟨ids, x7, x8, hids, hok, rfl, f9, at9, b9, d9⟩
      exact ⟨_, rfl, k _ p6 ids b9 d9 hnew f9 (by omega) hok⟩
end
end K39
/-! L4 -/
set_option maxHeartbeats 4000000
/-! the items -/
namespace K39
open PySem PySem.Spec PyProof.Rows L2

structure Itm where
  key : Str
  kind : Str
  goal : Option Str
/-- an item, as a tuple -/
def ItemAt (H : Hp) (a : Addr) (t : Itm) : Prop := ∃ c, H a = some (.tup [.str t.key, .str t.kind, c, fbV t.goal]) ∧ ((t.kind = "chapter" ∧ t.goal = none ∧ ∃ e, c = .ref e ∧ H e = some (.tup [])) ∨ (t.kind ≠ "chapter" ∧ c = .str ""))
/-- the rows at r -/
def RowsAt (H : Hp) (r : Addr) (as : List Addr) (its : List Itm) : Prop := H r = some (.tup (as.map V.ref)) ∧ Paired (ItemAt H) as its
def Kinds : List Str := ["chapter", "figure", "sound", "table"]
def ItmOk (t : Itm) : Prop := IdOk t.key ∧ t.kind ∈ Kinds ∧ ∀ g, t.goal = some g → IdOk g
/-- what stands of the tuples stays -/
def TK (H H' : Hp) : Prop := ∀ b xs, H b = some (.tup xs) → H' b = some (.tup xs)
theorem TK.refl {H : Hp} : TK H H := fun _ _ h => h
theorem TK.trans {H H1 H2 : Hp} (a : TK H H1) (b : TK H1 H2) : TK H H2 := fun c xs h => b c xs (a c xs h)
theorem TK.but {d : Addr} {H H' : Hp} {m : Nat} (b : But d H H') (D : DrawOk H d m) : TK H H' := fun c xs h => b c _ (but_ne D h (by simp)) h
theorem TK.new {H : Hp} {p : Addr} {o : HO} (h : H p = none) : TK H (upd H p o) := fun b xs e => by rw [upd_ne (ne_of_none e h)]; exact e
theorem TK.lst {H : Hp} {p : Addr} {xs : List V} {o : HO} (h : H p = some (.lst xs)) : TK H (upd H p o) := fun b ys e => by rw [upd_ne (ne_of e h (by simp))]; exact e
theorem TK.same {H H' : Hp} (s : Same H H') : TK H H' := fun b _ h => s b _ h
theorem ItemAt.keep {H H' : Hp} {a : Addr} {t : Itm} (h : ItemAt H a t) (k : TK H H') : ItemAt H' a t := by
  obtain ⟨c, h1, h2⟩ := h
  refine ⟨c, k _ _ h1, ?_⟩
  rcases h2 with ⟨e1, e2, e, e3, e4⟩ | h2
  · exact .inl ⟨e1, e2, e, e3, k _ _ e4⟩
  · exact .inr h2
theorem items_keep {H H' : Hp} (k : TK H H') : ∀ {as : List Addr} {its : List Itm}, Paired (ItemAt H) as its → Paired (ItemAt H') as its
  | _, _, .nil => .nil
  | _, _, .cons h t => .cons (h.keep k) (items_keep k t)
theorem RowsAt.keep {H H' : Hp} {r : Addr} {as : List Addr} {its : List Itm} (h : RowsAt H r as its) (k : TK H H') : RowsAt H' r as its := ⟨k _ _ h.1, items_keep k h.2⟩
theorem paired_snoc {α β : Type} {F : α → β → Prop} {a : α} {b : β} (h : F a b) : ∀ {xs : List α} {ys : List β}, Paired F xs ys → Paired F (xs ++ [a]) (ys ++ [b])
  | _, _, .nil => .cons h .nil
  | _, _, .cons r t => .cons r (paired_snoc h t)
def spItems : Sp := fun vs H Q _ => ∃ (d : Addr) (m : Nat), vs = [.ref d] ∧ DrawOk H d m ∧ m < 800000 ∧
  ∀ (H' : Hp) (r : Addr) (as : List Addr) (its : List Itm), But d H H' → DrawOk H' d (m + 100) → H r = none → RowsAt H' r as its → its ≠ [] → its.length ≤ 12 → (∀ t ∈ its, ItmOk t ∧ t.key ≠ "nobody") → Q (.ref r) H'
theorem pickL {α : Type} {l : List α} {r : Int} (h0 : 0 ≤ r) (h1 : r < l.length) : ∃ c, atI l r = some c ∧ c ∈ l := by
  obtain ⟨j, rfl⟩ : ∃ j : Nat, r = (j : Int) := ⟨_, (Int.toNat_of_nonneg h0).symm⟩
  have hj : j < l.length := by omega
  exact ⟨l[j], atI_nat (List.getElem?_eq_getElem hj), List.getElem_mem hj⟩
section
variable {P : Program} {w : World} {K : PySem.W.Frag} {mg : Str → Option Value} {base : Heap}
abbrev nItems : List Str := ["_law_draw", "_law_keys", "_law_words", "_law_found", "_law_k", "_law_key", "_law_kind", "_law_some", "_law_goal"]
theorem scItems : FnScope nItems ["_law_draw"] (defScope sItems) := ⟨rfl, rfl, rfl, by decide +kernel, rfl, by decide +kernel, by decide +kernel⟩
theorem ok_items (B : Bl mg) (F : FnA K mg "_law_items" sItems) (N : C8.Cal P w K mg base 2 "_law_next" spNext []) (I : C8.Cal P w K mg base 3 "_law_ids" spIds []) : C8.Cal P w K mg base 4 "_law_items" spItems [] := by
  refine F.cal scItems (fun _ _ _ _ _ _ us hl => match us, hl with | [_], _ => rfl) (fun vs H Q E h => by obtain ⟨d, m, rfl, _⟩ := h; rfl) fun f cdv A outer s H vs Q E hr h => ?_
  refine ⟨_, pss_cons (ps_set (i := 1) scItems.nd rfl (Or.inl rfl) (C8.pe_c I hr (by decide) (by rfl) (pa_cons (pv 0) (pa_cons pe_int pa_nil))))
    (pss_cons (ps_set (i := 2) scItems.nd rfl (Or.inl rfl) (pe_lst (pa_cons pe_str (pa_cons pe_str (pa_cons pe_str (pa_cons pe_str pa_nil))))))
    (pss_cons (ps_set (i := 3) scItems.nd rfl (Or.inl rfl) (pe_lst pa_nil))
    (pss_cons (ps_for PassesOwn.never rfl (pi_range1 (by rfl) B.range (pa_cons (pe_op op_add pe_int (C8.pe_c N hr (by decide) (by rfl) (pa_cons (pv 0) (pa_cons pe_int pa_nil)))) pa_nil)) (pg_name (i := 4) scItems.nd rfl (Or.inl rfl))
      (pss_cons (ps_set (i := 5) scItems.nd rfl (Or.inl rfl) (pe_ix ix_list (pv 1) (pe_ix ix_list (pe_lst (pa_cons (pe_op op_mod (pe_i B (pv 4)) pe_int) (pa_cons (C8.pe_c N hr (by decide) (by rfl) (pa_cons (pv 0) (pa_cons pe_int pa_nil))) pa_nil))) (C8.pe_c N hr (by decide) (by rfl) (pa_cons (pv 0) (pa_cons pe_int pa_nil))) (fun _ _ => rfl)) (fun _ _ => rfl)))
      (pss_cons (ps_set (i := 6) scItems.nd rfl (Or.inl rfl) (pe_ix ix_list (pv 2) (C8.pe_c N hr (by decide) (by rfl) (pa_cons (pv 0) (pa_cons pe_int pa_nil))) (fun _ _ => rfl)))
      (pss_cons (ps_set (i := 7) scItems.nd rfl (Or.inl rfl) (pe_op op_cat (pv 1) (pe_lst (pa_cons (pv 5) (pa_cons pe_non pa_nil)))))
      (pss_cons (ps_set (i := 8) scItems.nd rfl (Or.inl rfl) (pe_ix ix_list (pv 7) (C8.pe_c N hr (by decide) (by rfl) (pa_cons (pv 0) (pa_cons pe_int pa_nil))) (fun _ _ => rfl)))
      (pss_one (ps_expr (pe_bm PySem.F.plainAttrs_list PySem.F.slot_list_append PySem.F.type_list_append mt_append (pv 3)
        (pa_cons (pe_ifExp (pt_cmpR op_eq (pv 6) pe_str (nomark _)) (pe_tup (pa_cons (pv 5) (pa_cons (pv 6) (pa_cons (pe_tup pa_nil) (pa_cons pe_non pa_nil))))) (pe_tup (pa_cons (pv 5) (pa_cons (pv 6) (pa_cons pe_str (pa_cons (pv 8) pa_nil)))))) pa_nil)))))))))
    (pss_one (ps_ret (pe_callTy call_tuple_of (by rfl) B.tuple (by decide +kernel) (pa_cons (pv 3) pa_nil))))))), ?_⟩
  obtain ⟨d, m, rfl, hd, hm, k⟩ := h
  refine ⟨_, rfl, d, 8, m, rfl, by decide, hd, by omega, fun H1 pK ids b1 d1 fK hK hlen hids2 => ?_⟩
  have hids : ∀ x ∈ ids, IdOk x := fun x hx => (hids2 x hx).1
  refine ⟨(by show 4 ≤ sizeLine; exact small_sz (by decide)), fun pW hW => ?_⟩
  refine ⟨Nat.zero_le _, fun pF hF => ?_⟩
  have da := draw_new (o := .lst (Kinds.map V.str)) hW d1
  have ba : But d H (upd H1 pW (.lst (Kinds.map V.str))) := b1.trans (but_new hW)
  have ka : (upd H1 pW (.lst (Kinds.map V.str))) pK = some (.lst (ids.map V.str)) := by rw [upd_ne (ne_of_none hK hW)]; exact hK
  have wa : (upd H1 pW (.lst (Kinds.map V.str))) pW = some (.lst (Kinds.map V.str)) := upd_same
  change (upd H1 pW (.lst (Kinds.map V.str))) pF = none at hF
  have db := draw_new (o := .lst []) hF da
  have bb : But d H (upd (upd H1 pW (.lst (Kinds.map V.str))) pF (.lst [])) := ba.trans (but_new hF)
  have kb : (upd (upd H1 pW (.lst (Kinds.map V.str))) pF (.lst [])) pK = some (.lst (ids.map V.str)) := by rw [upd_ne (ne_of_none ka hF)]; exact ka
  have wb : (upd (upd H1 pW (.lst (Kinds.map V.str))) pF (.lst [])) pW = some (.lst (Kinds.map V.str)) := by rw [upd_ne (ne_of_none wa hF)]; exact wa
  have fb : (upd (upd H1 pW (.lst (Kinds.map V.str))) pF (.lst [])) pF = some (.lst []) := upd_same
  have nKF : pK ≠ pF := ne_of_none ka hF
  have nWF : pW ≠ pF := ne_of_none wa hF
  have hnew : H pF = none := was_free ba da hF
  show tSeq _ _ _ _ (upd (upd H1 pW (.lst (Kinds.map V.str))) pF (.lst []))
  generalize upd (upd H1 pW (.lst (Kinds.map V.str))) pF (.lst []) = Hb at db bb kb wb fb
  refine ⟨_, rfl, d, 12, m + 20, rfl, by decide, by decide, db, by omega, fun H2 r2 b2 d2 lo2 hi2 => ?_⟩
  have nK := but_ne db kb (by simp)
  have nW := but_ne db wb (by simp)
  have nF := but_ne db fb (by simp)
  refine ⟨_, _, rfl, rfl, _, rfl, by omega, by omega, for_range (lo := 0) (n := (1 + r2).toNat) (fun i σ H' => ∃ (as : List Addr) (its : List Itm) (x4 x5 x6 x7 x8 : Option V), its.length = i ∧ (∀ t ∈ its, ItmOk t ∧ t.key ≠ "nobody") ∧ Paired (ItemAt H') as its ∧
    σ = [some (.ref d), some (.ref pK), some (.ref pW), some (.ref pF), x4, x5, x6, x7, x8] ∧ H' pF = some (.lst (as.map V.ref)) ∧ H' pK = some (.lst (ids.map V.str)) ∧ H' pW = some (.lst (Kinds.map V.str)) ∧ But d H H' ∧ DrawOk H' d (m + 21 + 4 * i))
    ⟨[], [], none, none, none, none, none, rfl, by simp, .nil, rfl, b2 _ _ nF fb, b2 _ _ nK kb, b2 _ _ nW wb, bb.trans b2, d2⟩ ?_ ?_⟩
  · rintro i σ H3 hi ⟨as, its, x4, x5, x6, x7, x8, hil, hok, hpa, rfl, f3, k3, w3, b3, d3⟩
    have hi' : i < 12 := by omega
    -- the key
    refine ⟨_, rfl, _, rfl, _, rfl, _, _, rfl, rfl, (by show (0 : Int) < _; decide), _, rfl, d, 8, _, rfl, by decide, by decide, d3, by omega, fun H4 r4 b4 d4 lo4 hi4 => ?_⟩
    refine ⟨(by show 2 ≤ sizeLine; exact small_sz (by decide)), fun q hq => ?_⟩
    have dq := draw_new (o := .lst [.int ((0 + (i : Int)) % 8), .int r4]) hq d4
    have nq := but_ne dq upd_same (by simp)
    refine ⟨_, rfl, d, 2, _, rfl, by decide, by decide, dq, by omega, fun H5 r5 b5 d5 lo5 hi5 => ?_⟩
    have lq : H5 q = some (.lst [.int ((0 + (i : Int)) % 8), .int r4]) := b5 _ _ nq upd_same
    have fr : ∀ {b : Addr} {o : HO}, b ≠ d → H3 b = some o → H5 b = some o := fun {b o} n e => b5 b o n (by rw [upd_ne (ne_of_none (b4 b o n e) hq)]; exact b4 b o n e)
    obtain ⟨v, hv, hmem⟩ := pickL (l := [V.int ((0 + (i : Int)) % 8), .int r4]) lo5 (show r5 < _ from hi5)
    obtain ⟨z, rfl, z0, z1⟩ : ∃ z : Int, v = .int z ∧ 0 ≤ z ∧ z < 8 := by
      rcases List.mem_cons.mp hmem with rfl | hmem
      · exact ⟨_, rfl, by omega, by omega⟩
      · rw [List.mem_singleton.mp hmem]
        exact ⟨_, rfl, lo4, hi4⟩
    obtain ⟨vk, hvk, hmk⟩ := pickL (l := ids.map V.str) z0 (by rw [List.length_map, hlen]; exact z1)
    obtain ⟨key, hkey, rfl⟩ := List.mem_map.mp hmk
    refine ⟨_, _, _, _, rfl, rfl, .of lq, hv, ?_⟩
    refine ⟨_, _, _, _, rfl, rfl, .of (fr nK k3), hvk, ?_⟩
    have tk5 : TK H3 H5 := fun b xs e => fr (but_ne d3 e (by simp)) e
    have bt5 : But d H H5 := fun b o n e => fr n (b3 b o n e)
    -- the kind
    refine ⟨_, rfl, _, rfl, d, 4, _, rfl, by decide, by decide, d5, by omega, fun H6 r6 b6 d6 lo6 hi6 => ?_⟩
    obtain ⟨vd, hvd, hmd⟩ := pickL (l := Kinds.map V.str) lo6 (show r6 < _ from hi6)
    obtain ⟨kd, hkd, rfl⟩ := List.mem_map.mp hmd
    refine ⟨_, _, _, _, rfl, rfl, .of (b6 _ _ nW (fr nW w3)), hvd, ?_⟩
    -- the goal
    refine ⟨_, rfl, _, rfl, (by show 2 ≤ sizeLine; exact small_sz (by decide)), fun q2 hq2 => ?_⟩
    have k6 := b6 _ _ nK (fr nK k3)
    have d6' := draw_new (o := .lst [.str key, .non]) hq2 d6
    refine ⟨pK, q2, _, _, rfl, rfl, (by rw [upd_ne (ne_of_none k6 hq2)]; exact k6), upd_same, ?_, fun q3 hq3 => ?_⟩
    · rw [List.length_map, hlen]
      exact small_sz (by show 8 + 2 ≤ 1000; decide)
    have d6'' := draw_new (o := .lst (ids.map V.str ++ [.str key, .non])) hq3 d6'
    have nq3 := but_ne d6'' upd_same (by simp)
    refine ⟨_, rfl, _, rfl, d, 10, _, rfl, by decide, by decide, d6'', by omega, fun H7 r7 b7 d7 lo7 hi7 => ?_⟩
    have fr7 : ∀ {b : Addr} {o : HO}, b ≠ d → H3 b = some o → H7 b = some o := fun {b o} n e => b7 b o n (by
      have e6 := b6 b o n (fr n e)
      have e6' : (upd H6 q2 (.lst [.str key, .non])) b = some o := by rw [upd_ne (ne_of_none e6 hq2)]; exact e6
      rw [upd_ne (ne_of_none e6' hq3)]
      exact e6')
    obtain ⟨vg, hvg, hmg⟩ := pickL (l := ids.map V.str ++ [.str key, .non]) lo7 (by rw [List.length_append, List.length_map, hlen]; exact hi7)
    obtain ⟨goal, rfl, hgoal⟩ : ∃ goal : Option Str, vg = fbV goal ∧ ∀ g, goal = some g → IdOk g := by
      rcases List.mem_append.mp hmg with hm | hm
      · obtain ⟨g, hg, rfl⟩ := List.mem_map.mp hm
        exact ⟨some g, rfl, fun x e => by cases e; exact hids g hg⟩
      · rcases List.mem_cons.mp hm with rfl | hm
        · exact ⟨some key, rfl, fun x e => by cases e; exact hids key hkey⟩
        · rw [List.mem_singleton.mp hm]
          exact ⟨none, rfl, fun x e => by cases e⟩
    refine ⟨_, _, _, _, rfl, rfl, .of (b7 _ _ nq3 upd_same), hvg, ?_⟩
    have f7 := fr7 nF f3
    have tk7 : TK H3 H7 := fun b xs e => fr7 (but_ne d3 e (by simp)) e
    have bt7 : But d H H7 := fun b o n e => fr7 n (b3 b o n e)
    -- it is laid and appended
    have fin : ∀ {Hx : Hp} (it : Itm) (c : V), (ItmOk it ∧ it.key ≠ "nobody") → Same H7 Hx → (∀ u, Hx u = none → H7 u = none) → DrawOk Hx d (m + 21 + 4 * (i + 1)) → (∀ {Hy : Hp} {u : Addr}, Same Hx Hy → Hy u = some (.tup [.str it.key, .str it.kind, c, fbV it.goal]) → ItemAt Hy u it) → ∀ u, Hx u = none →
        rAppend (.ref pF) [.ref u] (upd Hx u (.tup [.str it.key, .str it.kind, c, fbV it.goal])) fun _ H' => ∃ (as : List Addr) (its : List Itm) (x4 x5 x6 x7 x8 : Option V), its.length = i + 1 ∧ (∀ t ∈ its, ItmOk t ∧ t.key ≠ "nobody") ∧ Paired (ItemAt H') as its ∧
          ([some (.ref d), some (.ref pK), some (.ref pW), some (.ref pF), some (.int (0 + i)), some (.str key), some (.str kd), some (.ref q3), some (fbV goal)] : L2.St) = [some (.ref d), some (.ref pK), some (.ref pW), some (.ref pF), x4, x5, x6, x7, x8] ∧
            H' pF = some (.lst (as.map V.ref)) ∧ H' pK = some (.lst (ids.map V.str)) ∧ H' pW = some (.lst (Kinds.map V.str)) ∧ But d H H' ∧ DrawOk H' d (m + 21 + 4 * (i + 1)) := by
      intro Hx it c ho sm hn dx hat u hu
      have eU : Same Hx (upd Hx u (.tup [.str it.key, .str it.kind, c, fbV it.goal])) := fun b o e => by rw [upd_ne (ne_of_none e hu)]; exact e
      have fU := eU _ _ (sm _ _ f7)
      have lenA : as.length = i := by rw [Paired.length hpa]; exact hil
      refine ⟨pF, _, _, rfl, rfl, fU, by rw [List.length_map, lenA]; exact small1000 (by omega), ?_⟩
      have tkW : TK (upd Hx u (.tup [.str it.key, .str it.kind, c, fbV it.goal])) (upd (upd Hx u (.tup [.str it.key, .str it.kind, c, fbV it.goal])) pF (.lst (as.map V.ref ++ [.ref u]))) := TK.lst fU
      have tk : TK H3 (upd (upd Hx u (.tup [.str it.key, .str it.kind, c, fbV it.goal])) pF (.lst (as.map V.ref ++ [.ref u]))) := ((tk7.trans (.same sm)).trans (.same eU)).trans tkW
      refine ⟨as ++ [u], its ++ [it], _, _, _, _, _, by simp [hil], fun t ht => ?_, paired_snoc ((hat eU upd_same).keep tkW) (items_keep tk hpa), rfl, ?_, ?_, ?_, ?_, ?_⟩
      · rcases List.mem_append.mp ht with ht | ht
        · exact hok t ht
        · rw [List.mem_singleton.mp ht]; exact ho
      · rw [upd_same]
        simp
      · rw [upd_ne nKF]
        exact eU _ _ (sm _ _ (fr7 nK k3))
      · rw [upd_ne nWF]
        exact eU _ _ (sm _ _ (fr7 nW w3))
      · intro b o n e
        rw [upd_ne (ne_of_none e hnew)]
        exact eU _ _ (sm _ _ (bt7 b o n e))
      · exact draw_lst fU (fun v hv i e => by cases as <;> simp at hv; subst hv; cases e) (draw_new hu dx)
    refine ⟨_, rfl, .inl ⟨rfl, _, .of f7⟩, _, rfl, rfl, _, rfl, ?_⟩
    have dx7 : DrawOk H7 d (m + 21 + 4 * (i + 1)) := d7.mono (by omega)
    refine ite2 (fun e => ?_) fun e => ?_
    · have ek : kd = "chapter" := by
        have := of_decide_eq_true e
        injection this
      refine ⟨_, rfl, _, rfl, Nat.zero_le _, fun e1 he1 => ?_⟩
      refine ⟨(by show 4 ≤ sizeLine; exact small_sz (by decide)), fun u hu => ?_⟩
      have sm : Same H7 (upd H7 e1 (.tup [])) := fun b o e => by rw [upd_ne (ne_of_none e he1)]; exact e
      exact fin ⟨key, kd, none⟩ (.ref e1) ⟨⟨hids key hkey, hkd, fun g z => by cases z⟩, (hids2 key hkey).2⟩ sm (fun u hu => sm.free hu) (draw_new he1 dx7) (fun {Hy u} s1 h1 => ⟨_, h1, .inl ⟨ek, rfl, e1, rfl, s1 _ _ upd_same⟩⟩) u hu
    · have ek : kd ≠ "chapter" := fun z => e (by rw [z]; exact decide_eq_true rfl)
      refine ⟨_, rfl, _, rfl, _, rfl, (by show 4 ≤ sizeLine; exact small_sz (by decide)), fun u hu => ?_⟩
      exact fin ⟨key, kd, goal⟩ (.str "") ⟨⟨hids key hkey, hkd, hgoal⟩, (hids2 key hkey).2⟩ (Same.refl _) (fun u hu => hu) dx7 (fun {Hy u} s1 h1 => ⟨_, h1, .inr ⟨ek, rfl⟩⟩) u hu
  · rintro σ H3 ⟨as, its, x4, x5, x6, x7, x8, hil, hok, hpa, rfl, f3, k3, w3, b3, d3⟩
    refine ⟨_, rfl, pF, _, rfl, .inl ⟨.of f3, fun r hr' => ?_⟩⟩
    have hnr : H r = none := was_free b3 d3 hr'
    refine k _ r as its (b3.trans (but_new hr')) ((draw_new hr' d3).mono (by omega)) hnr ⟨upd_same, items_keep (TK.new hr') hpa⟩ (fun z => ?_) (by omega) hok
    rw [z] at hil
    have : (0 : Nat) = (1 + r2).toNat := hil
    omega
end
end K39
/-! L5 -/
set_option maxHeartbeats 4000000
/-! is_text, is_id, is_tuple_of, is_text_of -/
namespace K39
open PySem PySem.Spec PyProof.Rows L2

/-- the module's constants -/
structure Cst (mg : Str → Option Value) : Prop where
  letters : ∃ u, mg "LETTERS" = some u ∧ RelV (.str "abcdefghijklmnopqrstuvwxyz") u
  digits : ∃ u, mg "DIGITS" = some u ∧ RelV (.str "0123456789") u
  mostName : ∃ u, mg "MOST_NAME" = some u ∧ RelV (.int 16) u
  mostContent : ∃ u, mg "MOST_CONTENT" = some u ∧ RelV (.int 2000) u
  mostElements : ∃ u, mg "MOST_ELEMENTS" = some u ∧ RelV (.int 40) u
  chapter : ∃ u, mg "CHAPTER" = some u ∧ RelV (.str "chapter") u
/-- an expression that is not come to -/
def tNo : TE := fun _ _ _ => False
theorem pe_no {X : Cx} {e : Expr} : PE X e tNo := ⟨fun _ _ _ _ _ _ h => h.elim⟩
def tNoT : TT := fun _ _ _ => False
theorem pt_no {X : Cx} {e : Expr} : PT X e tNoT := ⟨fun _ _ _ _ _ _ h => h.elim⟩
theorem kit_s' {K : PySem.W.Frag} : PySem.W.kitOne K (.type "str") (.type "str") = some true := by rfl
theorem kit_t' {K : PySem.W.Frag} : PySem.W.kitOne K (.type "tuple") (.type "tuple") = some true := by rfl
theorem bS : bootBuiltins "str" = some (.type "str") := by decide +kernel
theorem bT : bootBuiltins "tuple" = some (.type "tuple") := by decide +kernel
theorem bL : bootBuiltins "list" = some (.type "list") := by decide +kernel
/-- a predicate that holds here -/
def spYes (C : List V → Hp → Prop) : Sp := fun vs H Q _ => C vs H ∧ ∀ H', Same H H' → Q (.bl true) H'
section
variable {P : Program} {w : World} {K : PySem.W.Frag} {mg : Str → Option Value} {base : Heap}
abbrev nText : List Str := ["value", "sign"]
theorem scText : FnScope nText ["value"] (defScope sIsText) := ⟨rfl, rfl, rfl, by decide +kernel, rfl, by decide +kernel, by decide +kernel⟩
def cText : List V → Hp → Prop := fun vs _ => vs = [.str ""]
theorem ok_isText (B : Bl mg) (F : FnA K mg "is_text" sIsText) : C8.Cal P w K mg base 1 "is_text" (spYes cText) [] := by
  refine F.cal scText (fun _ _ _ _ _ _ us hl => match us, hl with | [_], _ => rfl) (fun vs H Q E h => by obtain ⟨rfl, _⟩ := h; rfl) fun f cdv A outer s H vs Q E hr h => ?_
  refine ⟨_, pss_one (ps_ret (pe_and (pe_isi B (pv 0) B.str bS) (pe_one (pe_callB (cr_all rfl) (by rfl) B.all (by decide +kernel) (pa_cons
    (pe_lc (own := [("sign", 1)]) (g := gName 1) (tt := tYes) rfl scText.nd (pi_str (pv 0)) (blkOk_by (own := [("sign", 1)]) (N := nText) (sc := defScope sIsText) (by decide +kernel)) (fun _ _ _ _ _ => pg_name (i := 1) scText.nd rfl (Or.inl rfl)) (fun _ _ _ _ _ => pts_nil)
      (fun _ _ _ _ _ => pe_no)) pa_nil))))), ?_⟩
  obtain ⟨rfl, k⟩ := h
  refine ⟨_, rfl, _, _, _, _, true, rfl, .ty "str", .base (.str _), kit_s', true, rfl, ?_⟩
  refine iteT ?_
  refine ⟨_, rfl, _, rfl, fun D hD => ?_⟩
  refine lc_it (w := walk_str) (fun i H' => H' = upd H D (.lst [])) rfl (fun _ _ _ _ => trivial) (fun i x H1 H2 hi => absurd hi (Nat.not_lt_zero i)) ?_
  rintro H1 rfl
  refine ⟨D, [], rfl, .of upd_same, k _ fun b o e => ?_⟩
  rw [upd_ne (ne_of_none e hD)]
  exact e
abbrev nId : List Str := ["value", "sign"]
theorem scId : FnScope nId ["value"] (defScope sIsId) := ⟨rfl, rfl, rfl, by decide +kernel, rfl, by decide +kernel, by decide +kernel⟩
def cId : List V → Hp → Prop := fun vs _ => ∃ x, vs = [.str x] ∧ IdOk x
theorem sgn_in {c : Nat} (h : Sgn c) : c ∈ ("abcdefghijklmnopqrstuvwxyz" : Str).cps.toList ∨ c ∈ ("0123456789" : Str).cps.toList := by
  have e1 : ("abcdefghijklmnopqrstuvwxyz" : Str).cps.toList = (List.range 26).map (· + 97) := by decide +kernel
  have e2 : ("0123456789" : Str).cps.toList = (List.range 10).map (· + 48) := by decide +kernel
  rcases h with h | h
  · refine .inl ?_
    rw [e1]
    exact List.mem_map.mpr ⟨c - 97, List.mem_range.mpr (by omega), by omega⟩
  · refine .inr ?_
    rw [e2]
    exact List.mem_map.mpr ⟨c - 48, List.mem_range.mpr (by omega), by omega⟩
theorem low_in {c : Nat} (h : Low c) : c ∈ ("abcdefghijklmnopqrstuvwxyz" : Str).cps.toList := by
  rcases sgn_in h.sgn with h1 | h1
  · exact h1
  · have e2 : ("0123456789" : Str).cps.toList = (List.range 10).map (· + 48) := by decide +kernel
    rw [e2] at h1
    obtain ⟨j, hj, e⟩ := List.mem_map.mp h1
    have := List.mem_range.mp hj
    omega
theorem ok_isId (B : Bl mg) (C : Cst mg) (F : FnA K mg "is_id" sIsId) : C8.Cal P w K mg base 1 "is_id" (spYes cId) [] := by
  refine F.cal scId (fun _ _ _ _ _ _ us hl => match us, hl with | [_], _ => rfl) (fun vs H Q E h => by obtain ⟨⟨x, rfl, _⟩, _⟩ := h; rfl) fun f cdv A outer s H vs Q E hr h => ?_
  refine ⟨_, pss_cons (ps_if (PW.pt (pw_or (pt_not (pt_val (pe_isi B (pv 0) B.str bS))) (pw_or (pt_not (pt_chain op_le op_le pe_int (pe_lenT B (pv 0)) (C8.pe_gc rfl C.mostName))) (pw_or1 (pt_cmpR op_notIn_sign (pe_ix ix_str (pv 0) pe_int (fun _ _ => rfl)) (C8.pe_gc rfl C.letters) rfl)))))
      (pss_one (ps_ret pe_bl)) pss_nil)
    (pss_one (ps_ret (pe_callB (cr_all rfl) (by rfl) B.all (by decide +kernel) (pa_cons
    (pe_lc (own := [("sign", 1)]) (g := gName 1) (tt := tYes) rfl scId.nd (pi_str (pv 0)) (blkOk_by (own := [("sign", 1)]) (N := nId) (sc := defScope sIsId) (by decide +kernel)) (fun _ _ _ _ _ => pg_name (i := 1) scId.nd rfl (Or.inl rfl)) (fun _ _ _ _ _ => pts_nil)
      (fun _ _ _ _ _ => pe_or (pe_cmpR op_in_sign (pv 1) (C8.pe_gc rfl C.letters) rfl) (pe_one (pe_cmpR op_in_sign (pv 1) (C8.pe_gc rfl C.digits) rfl)))) pa_nil)))), ?_⟩
  obtain ⟨⟨x, rfl, hl, ⟨c0, r, hx, h0⟩, hs⟩, k⟩ := h
  have hsz : x.cps.toList.length = x.length := by simp [Str.length]
  refine ⟨_, rfl, _, _, _, _, true, rfl, .ty "str", .base (.str _), kit_s', true, rfl, ?_⟩
  refine ⟨_, rfl, _, rfl, small_sz (by omega), _, _, rfl, rfl, _, rfl, ?_⟩
  have h1 : (1 : Int) ≤ (x.length : Int) := by
    rw [← hsz, hx, List.length_cons]
    omega
  rw [decide_eq_true h1]
  refine iteT ?_
  refine ⟨_, _, rfl, rfl, _, rfl, ?_⟩
  rw [decide_eq_true (show (x.length : Int) ≤ 16 by omega)]
  refine ⟨_, rfl, _, _, c0, rfl, rfl, small_sz (by omega), ?_, ?_⟩
  · rw [hx]
    exact atI_nat (j := 0) rfl
  refine ⟨c0, _, rfl, rfl, _, rfl, ?_⟩
  rw [decide_eq_true (low_in h0)]
  refine ⟨_, rfl, x, rfl, fun D hD => ?_⟩
  have szx : x.cps.size = x.length := rfl
  refine lc_it (w := walk_str) (fun i H' => H' D = some (.lst ((List.replicate i true).map V.bl)) ∧ Same H H') ⟨upd_same, fun b o e => by rw [upd_ne (ne_of_none e hD)]; exact e⟩ (fun _ _ _ _ => trivial) ?_ ?_
  · rintro i v H1 H2 hi ⟨hD1, hS⟩ ⟨rfl, c, hc, rfl⟩
    have hcs : Sgn c := hs c (by
      obtain ⟨hlt, e⟩ := Array.getElem?_eq_some_iff.mp hc
      rw [← e]
      exact Array.mem_toList_iff.mpr (Array.getElem_mem hlt))
    have fin : ∃ acc, H2 D = some (.lst acc) ∧ acc.length < sizeLine ∧ (upd H2 D (.lst (acc ++ [V.bl true]))) D = some (.lst ((List.replicate (i + 1) true).map V.bl)) ∧ Same H (upd H2 D (.lst (acc ++ [V.bl true]))) := by
      refine ⟨_, hD1, by rw [List.length_map, List.length_replicate]; exact small1000 (by omega), ?_, fun b o e => ?_⟩
      · rw [upd_same, List.replicate_succ', List.map_append]
        rfl
      · rw [upd_ne (ne_of_none e hD)]
        exact hS b o e
    refine ⟨rfl, ?_⟩
    refine ⟨_, rfl, c, _, rfl, rfl, _, rfl, ite2 (fun _ => fin) fun h => ?_⟩
    refine ⟨_, rfl, c, _, rfl, rfl, ?_⟩
    rw [decide_eq_true ((sgn_in hcs).resolve_left fun z => h (decide_eq_true z))]
    exact fin
  · rintro H1 ⟨hD1, hS⟩
    refine ⟨D, _, rfl, .of hD1, ?_⟩
    have e : (List.replicate x.cps.size true).all id = true := by simp
    rw [e]
    exact k _ hS
abbrev nTof : List Str := ["value", "many"]
theorem scTof : FnScope nTof ["value", "many"] (defScope sIsTupleOf) := ⟨rfl, rfl, rfl, by decide +kernel, rfl, by decide +kernel, by decide +kernel⟩
def cTof : List V → Hp → Prop := fun vs H => ∃ a xs, vs = [.ref a, .int (xs.length : Nat)] ∧ H a = some (.tup xs)
theorem ok_isTupleOf (B : Bl mg) (F : FnA K mg "is_tuple_of" sIsTupleOf) : C8.Cal P w K mg base 1 "is_tuple_of" (spYes cTof) [] := by
  refine F.cal scTof (fun _ _ _ _ _ _ us hl => match us, hl with | [_, _], _ => rfl) (fun vs H Q E h => by obtain ⟨⟨a, xs, rfl, _⟩, _⟩ := h; rfl) fun f cdv A outer s H vs Q E hr h => ?_
  refine ⟨_, pss_one (ps_ret (pe_and (pe_isi B (pv 0) B.tuple bT) (pe_one (pe_cmpR op_eq (pe_lenS B (pv 0)) (pv 1) (nomark _))))), ?_⟩
  obtain ⟨⟨a, xs, rfl, ha⟩, k⟩ := h
  refine ⟨_, rfl, _, _, _, _, true, rfl, .ty "tuple", .base (.tup ha), kit_t', true, rfl, ?_⟩
  refine ⟨_, rfl, _, _, rfl, .inr (.of ha), _, rfl, rfl, ?_⟩
  rw [decide_eq_true rfl]
  exact k _ (Same.refl _)
abbrev nXof : List Str := ["value", "least", "most"]
theorem scXof : FnScope nXof ["value", "least", "most"] (defScope sIsTextOf) := ⟨rfl, rfl, rfl, by decide +kernel, rfl, by decide +kernel, by decide +kernel⟩
def cXof : List V → Hp → Prop := fun vs _ => vs = [.str "", .int 0, .int 2000]
theorem ok_isTextOf (B : Bl mg) (F : FnA K mg "is_text_of" sIsTextOf) (T : C8.Cal P w K mg base 1 "is_text" (spYes cText) []) : C8.Cal P w K mg base 2 "is_text_of" (spYes cXof) [] := by
  refine F.cal scXof (fun _ _ _ _ _ _ us hl => match us, hl with | [_, _, _], _ => rfl) (fun vs H Q E h => by obtain ⟨rfl, _⟩ := h; rfl) fun f cdv A outer s H vs Q E hr h => ?_
  refine ⟨_, pss_one (ps_ret (pe_and (C8.pe_c T hr (by decide) (by rfl) (pa_cons (pv 0) pa_nil)) (pe_one (pe_chain op_le op_le (pv 1) (pe_lenT B (pv 0)) (pv 2))))), ?_⟩
  obtain ⟨rfl, k⟩ := h
  refine ⟨_, rfl, rfl, fun H1 s1 => ⟨true, rfl, ?_⟩⟩
  refine ⟨_, rfl, _, rfl, _, rfl, Nat.zero_le _, _, _, rfl, rfl, _, rfl, ?_⟩
  refine ⟨_, rfl, _, _, rfl, rfl, k _ s1⟩
end
end K39
/-! En -/
set_option maxHeartbeats 4000000
/-! enumerate of a tuple -/
namespace K39
open PySem PySem.Spec PyProof.Rows L2
open AutoSeq1 (wpAny_loadPart')

theorem enumT_new (l : Addr) (items : Array Value) (n : Nat) (dct : Option Addr) (sl : Array (Option Value)) :
    Meets (Builtin.«enumerate.__new__» ⟨[.type "enumerate", .ref l], []⟩) (fun _ R s => s.heap.get? l = some { cls := .type "tuple", dict := dct, data := .seq items n, slots := sl } ∧
      R (.ok (.ret (.ref (s.heap.push { cls := .type "tuple_iterator", data := .fields #[.ref l, .int 0 0] }).objs.size)))
        { s with heap := (s.heap.push { cls := .type "tuple_iterator", data := .fields #[.ref l, .int 0 0] }).push { cls := .type "enumerate", data := .fields #[.none, .bool false, .ref s.heap.objs.size, rawInt 0, .none, .none] } }) :=
  .of_wp fun prog w A R s h => by
    obtain ⟨hp, g, d, tk, os⟩ := s
    obtain ⟨hl, h⟩ := h
    have hsub := sub_enumerate
    have hL : Heap.IsTuple (Shared.heap ⟨hp, g, d, tk, os⟩) l items := ⟨_, hl, rfl, n, rfl⟩
    wp_walk using wpAny_loadPart' hl
    refine wpAny_stack_any fun st => wpAny_pure ?_
    split
    · rename_i c _ _ _ _ _
      cases (c == Value.type "enumerate")
      · wp_walk using wpAny_loadPart' hl, wpAny_pyIter_tuple hL
        exact ⟨_, rfl, h⟩
      · wp_walk using wpAny_loadPart' hl, wpAny_pyIter_tuple hL
        exact ⟨_, rfl, h⟩
    · wp_walk using wpAny_loadPart' hl, wpAny_pyIter_tuple hL
      exact ⟨_, rfl, h⟩
section
variable {prog : Program} {w : World} {A : Around} {E : Value → Shared → Prop} {s : Shared}
theorem call_enumT {l : Addr} {items : Array Value} {Q : Value → Shared → Prop} (hL : s.heap.IsTuple l items)
    (h : ∀ h', IsEnum h' (s.heap.objs.size + 1) s.heap.objs.size 0 .none → h'.IsTupleIter s.heap.objs.size l 0 → (∀ b o, s.heap.get? b = some o → h'.get? b = some o) → Q (.ref (s.heap.objs.size + 1)) { s with heap := h' }) :
    wpAny (model prog w) A (call (.type "enumerate") [.ref l]) Q E s := by
  obtain ⟨⟨c, dct, dt, sl⟩, hl, hc, n, hd⟩ := hL
  replace hc : c = .type "tuple" := hc
  replace hd : dt = .seq items n := hd
  subst hc hd
  refine callType_new PySem.F.called_enumerate (by decide) (PySem.F.typeCall_enumerate_1 _) (PySem.F.newCall_enumerate_1 _) (fun obj => PySem.F.args_object_init_2 obj _) PySem.F.entry_enumerate_new
    (enumT_new l items n dct sl) ⟨hl, ?_⟩
  have hz : (s.heap.push { cls := .type "tuple_iterator", data := .fields #[.ref l, .int 0 0] }).objs.size = s.heap.objs.size + 1 := Heap.size_push ..
  show _ ∧ _
  rw [hz]
  have he : IsEnum ((s.heap.push { cls := .type "tuple_iterator", data := .fields #[.ref l, .int 0 0] }).push
      { cls := .type "enumerate", data := .fields #[.none, .bool false, .ref s.heap.objs.size, rawInt 0, .none, .none] }) (s.heap.objs.size + 1) s.heap.objs.size 0 .none := by
    have := Heap.get?_push_size (s.heap.push { cls := .type "tuple_iterator", data := .fields #[.ref l, .int 0 0] })
      (o := { cls := .type "enumerate", data := .fields #[.none, .bool false, .ref s.heap.objs.size, rawInt 0, .none, .none] }) rfl
    rw [hz] at this
    exact this
  exact ⟨⟨_, he, rfl⟩, h _ he ⟨_, Heap.get?_push_of_some _ (Heap.get?_push_size _ rfl), rfl, rfl⟩ fun b o x => Heap.get?_push_of_some _ (Heap.get?_push_of_some _ x)⟩
end
/-- the tuple at a, its items with their numbers, in new pairs -/
def IteT (K : PySem.W.Frag) (a : Addr) : It :=
  ⟨fun i H => ∃ (xs : List V) (x : V), SqT K H a xs ∧ xs[i]? = some x, fun i H v H' => ∃ T x, v = .ref T ∧ H T = none ∧ H' = upd H T (.tup [.int (i : Nat), x]) ∧ ∀ xs, SqT K H a xs → xs[i]? = some x, fun i H => ∃ xs : List V, SqT K H a xs ∧ xs.length ≤ i⟩
theorem turn_enumT {P : Program} {w : World} {K : PySem.W.Frag} {elts : List Expr} {kk : Nat} {tpos : Pos} (a e it : Addr) :
    Turn P w K (.Tuple elts kk tpos) (IteT K a) [e, it] e (fun i h => (∃ old, IsEnum h e it ((i : Nat) : Int) old) ∧ h.IsTupleIter it a i ∧ e ≠ it) where
  mem := by simp
  obj := fun i h st b hb => by
    obtain ⟨⟨old, he⟩, ⟨o, ho, hc, hd⟩, _⟩ := st
    have e' : b = e ∨ b = it := by simpa using hb
    rcases e' with z | z
    · rw [z]; exact ⟨_, he, fun v q => nomatch q⟩
    · rw [z]; exact ⟨o, ho, fun v q => by rw [hd] at q; cases q⟩
  keep := fun i h h' st k => let ⟨⟨old, he⟩, hi, hne⟩ := st; ⟨⟨old, k e (by simp) _ he⟩, hi.at fun o q => k it (by simp) o q, hne⟩
  item := by
    intro X hP hw hK hc i pins s σ H E I hf st hg
    subst hP hw hK
    obtain ⟨⟨old, he⟩, hit, hne⟩ := st
    obtain ⟨xs, x, hq, hx⟩ := hg
    obtain ⟨its, rv, p, hz⟩ := I.tuple hq
    obtain ⟨u, hu, ru⟩ := rv.get hx
    have hel : e < s.heap.objs.size := Heap.lt_size he
    have hil : it < s.heap.objs.size := by obtain ⟨_, q, _⟩ := hit; exact Heap.lt_size q
    have hlen : i < its.length := (List.getElem?_eq_some_iff.mp hu).1
    have pt : s.heap.IsTuple a its.toArray := p
    have hat : a ≠ it := fun z => by
      obtain ⟨o1, e1, c1, _⟩ := hit
      obtain ⟨o2, e2, c2, _⟩ := p
      rw [z, e1] at e2
      cases e2
      rw [c1] at c2
      injection c2 with c3
      exact absurd c3 (by decide)
    have hae : e ∉ [it, a] := fun z => by
      rcases List.mem_cons.mp z with z | z
      · exact hne z
      · obtain ⟨o2, e2, c2, _⟩ := p
        rw [← List.mem_singleton.mp z, he] at e2
        have e3 := Option.some.inj e2
        rw [← e3] at c2
        have c4 : Value.type "enumerate" = Value.type "tuple" := c2
        injection c4 with c3
        exact absurd c3 (by decide)
    have Dt := Draws.tuple (prog := X.prog) (w := X.w) (A := X.A.in1) (I.ok.hd hc) it a hat its.toArray
    refine wpAny_pyNext_enum_itemD Dt he ⟨hit, pt⟩ (by simpa using hlen) hne hae fun x' h' tk hx' ho ⟨hit', _⟩ hT hsz hk => ?_
    have ex : x' = u := by
      have : its.toArray[i]? = some x' := hx'
      simp at this
      rw [hu] at this
      exact (Option.some.inj this).symm
    subst ex
    refine ⟨_, rfl, wpAny_letOwnedTupleGo_enum (s := { s with heap := h', toks := tk + 1 }) ho fun h'' he' sb => ?_⟩
    have hT2 : h''.get? s.heap.objs.size = some { cls := .type "tuple", data := .seq #[.int i tk, x'] } := (sb.2 _ (Nat.ne_of_gt hel)).trans hT
    have new : ObjOk X.prog X.w (upd H s.heap.objs.size (.tup [.int (i : Nat), x])) h'' s.heap.objs.size (.tup [.int (i : Nat), x]) :=
      ⟨by show 2 ≤ sizeLine; decide, [.int i tk, x'], .cons ⟨_, rfl⟩ (.cons ru .nil), ⟨_, hT2, rfl, _, rfl⟩⟩
    have I1 : Inv X pins σ (upd H s.heap.objs.size (.tup [.int (i : Nat), x])) { s with heap := h'', toks := tk + 1 } :=
      I.turnedNew (ch := [e, it]) (fun b ob hb q => (sb.2 b (fun z => hb (by simp [z]))).trans (hk b ob (fun z => hb (by simp [z])) (fun z => hb (by simp [z])) q)) hf (Nat.le_refl _) new
    refine ⟨.ref s.heap.objs.size, _, I1, rfl, ⟨_, x, rfl, I.hok.fresh (Nat.le_refl _), rfl, fun ys hy => by rw [I.tuple_inj hy hq]; exact hx⟩, ⟨⟨x', ?_⟩, hit'.at fun o q => (sb.2 it (Ne.symm hne)).trans q, hne⟩, fun b hb => ?_⟩
    · have e1 : ((i + 1 : Nat) : Int) = (i : Int) + 1 := by omega
      rw [e1]; exact he'
    · have hb' : b < s.heap.objs.size := by
        have e' : b = e ∨ b = it := by simpa using hb
        rcases e' with z | z
        · rw [z]; exact hel
        · rw [z]; exact hil
      rw [upd_ne (Nat.ne_of_lt hb')]
      exact (hf b hb).1
  done := by
    intro X hP hw hK hc i pins s σ H E I hf st hg
    subst hP hw hK
    obtain ⟨⟨old, he⟩, hit, hne⟩ := st
    obtain ⟨xs, hq, hx⟩ := hg
    obtain ⟨its, rv, p, hz⟩ := I.tuple hq
    obtain ⟨f0, f1, f2, f3, f4, f5⟩ := hf it (by simp)
    have hl := rv.length
    have pt : s.heap.IsTuple a its.toArray := p
    have D : Draws X.prog X.w X.A.in1 it [it, a] i (fun _ _ => True) (fun j h => h.IsTupleIter it a j ∧ h.IsTuple a its.toArray ∧ j = i) :=
      { live := fun _ _ st => let ⟨o, ho, _⟩ := st.1; ⟨o, ho⟩
        frame := fun _ _ _ st hk => ⟨st.1.at fun o e => hk it (by simp) o e, (by obtain ⟨o, ho, r⟩ := st.2.1; exact ⟨o, hk a (by simp) o ho, r⟩), st.2.2⟩
        item := fun j s Q E hj st _ => absurd st.2.2 (Nat.ne_of_lt hj)
        done := fun s Q E st hE => wpAny_nextOf_tuple_end (I.ok.hd hc) st.1 st.2.1 (by simp; omega) hE }
    exact wpAny_pyNext_enum_endD D he ⟨hit, pt, rfl⟩ fun h' eb => ⟨rfl, I.turned (t' := s.toks) (fun b o hb q => eb b o hb q) f0 f1 f3 f4 f5⟩
  self := fun A i s Q E st h => let ⟨⟨_, he⟩, _⟩ := st; wpAny_pyIter_enum he h
def iEnumT (K : PySem.W.Frag) (ta : TE) : TI := fun σ H R => ta σ H fun v H1 => ∃ a xs, v = .ref a ∧ SqT K H1 a xs ∧ R (IteT K a) H1
theorem pi_enumT {X : Cx} {e : Expr} {ta : TE} {p pos tpos : Pos} {elts : List Expr} {kk : Nat} (B : Bl X.mg) (ha : PE X e ta) (hg : Gl X "enumerate" := by rfl) (hs : starEach [e] X.env = [(false, eval e X.env)] := by rfl) :
    PI X (.Tuple elts kk tpos) (.Call (.Name "enumerate" p) [e] [] pos) (iEnumT X.K ta) := by
  refine ⟨fun pins s σ H R I h => ?_⟩
  have hs2 : starEach [e] X.env = (false, eval e X.env) :: starEach [] X.env := hs
  refine Call_ (ld_blt I hg B.enumerate (show bootBuiltins "enumerate" = some (.type "enumerate") by decide +kernel) (PyProof.Rows.callWith_type1 ?_ hs2 rfl))
  rw [hs2]
  show wpAny _ _ (spliced ((false, eval e X.env) :: backTo pos (starEach [] X.env))) _ _ s
  refine Calls.spliced_cons (thn (ha.run pins s σ H _ I h) fun u s1 ⟨v, H1, I1, r1, a, xs, ev, hq, q⟩ => ?_)
  subst ev
  cases r1
  refine Calls.spliced_nil ?_
  obtain ⟨its, rv, p', hz⟩ := I1.tuple hq
  refine call_enumT (show s1.heap.IsTuple a its.toArray from p') fun h' he hit hk => wpAny_pyIter_enum he ?_
  have I2 : Inv X pins σ H1 { s1 with heap := h' } := I1.kept (t' := s1.toks) hk
  refine ⟨s1.heap.objs.size + 1, [s1.heap.objs.size + 1, s1.heap.objs.size], _, _, H1, rfl, I2, turn_enumT a (s1.heap.objs.size + 1) s1.heap.objs.size, ⟨⟨.none, he⟩, hit, Nat.succ_ne_self _⟩, fun b hb => ?_, q⟩
  have e' : b = s1.heap.objs.size + 1 ∨ b = s1.heap.objs.size := by simpa using hb
  have hle : s1.heap.objs.size ≤ b := by
    rcases e' with z | z
    · rw [z]; exact Nat.le_add_right _ _
    · rw [z]; exact Nat.le_refl _
  exact I1.fpOk hle (I1.hok.fresh hle)
theorem walk_enumT {K : PySem.W.Frag} {a : Addr} {xs : List V} : Walk (IteT K a) xs.length (fun H => SqT K H a xs) (YPair (fun i => some (.int (i : Nat))) (fun i => xs[i]?)) := by
  refine ⟨fun i H hi h => ⟨xs, xs[i], h, by simp [hi]⟩, fun H h => ⟨xs, h, Nat.le_refl _⟩, fun i H x H' hi h y => ?_⟩
  obtain ⟨T, z, e, n, eH, hx⟩ := y
  exact ⟨T, _, z, e, n, eH, rfl, hx xs h⟩
end K39
/-! L6 -/
set_option maxHeartbeats 4000000
/-! is_head, first_bad of nothing, is_content, is_item, need_part, first_items -/
namespace K39
open PySem PySem.Spec PyProof.Rows L2

theorem kinds_id {k : Str} (h : k ∈ Kinds) : IdOk k := by
  unfold Kinds at h
  have hk : ∀ l : List Nat, (decide (l.length ≤ 16) && (match l with | c :: _ => decide (Low c) | [] => false) && l.all fun z => decide (Sgn z)) = true → IdL l := fun l e => by
    simp only [Bool.and_eq_true, decide_eq_true_eq, List.all_eq_true] at e
    obtain ⟨⟨a, b⟩, c⟩ := e
    refine ⟨a, ?_, c⟩
    cases l with
    | nil => cases b
    | cons z r => exact ⟨z, r, rfl, of_decide_eq_true b⟩
  rcases List.mem_cons.mp h with rfl | h
  · exact hk _ (by decide +kernel)
  rcases List.mem_cons.mp h with rfl | h
  · exact hk _ (by decide +kernel)
  rcases List.mem_cons.mp h with rfl | h
  · exact hk _ (by decide +kernel)
  rcases List.mem_cons.mp h with rfl | h
  · exact hk _ (by decide +kernel)
  · cases h
section
variable {P : Program} {w : World} {K : PySem.W.Frag} {mg : Str → Option Value} {base : Heap}
theorem scHead : FnScope ["value"] ["value"] (defScope sIsHead) := ⟨rfl, rfl, rfl, by decide +kernel, rfl, by decide +kernel, by decide +kernel⟩
def cHead : List V → Hp → Prop := fun vs H => ∃ a key kind goal, vs = [.ref a] ∧ H a = some (.tup [.str key, .str kind, fbV goal]) ∧ IdOk key ∧ IdOk kind ∧ ∀ g, goal = some g → IdOk g ∧ kind ≠ "chapter"
theorem ok_isHead (C : Cst mg) (F : FnA K mg "is_head" sIsHead) (T : C8.Cal P w K mg base 1 "is_tuple_of" (spYes cTof) []) (I : C8.Cal P w K mg base 1 "is_id" (spYes cId) []) : C8.Cal P w K mg base 2 "is_head" (spYes cHead) [] := by
  refine F.cal scHead (fun _ _ _ _ _ _ us hl => match us, hl with | [_], _ => rfl) (fun vs H Q E h => by obtain ⟨⟨a, key, kind, goal, rfl, _⟩, _⟩ := h; rfl) fun f cdv A outer s H vs Q E hr h => ?_
  refine ⟨_, pss_cons (ps_if (PW.pt (pw_or (pt_not (pt_val (C8.pe_c T hr (by decide) (by rfl) (pa_cons (pv 0) (pa_cons pe_int pa_nil))))) (pw_or (pt_not (pt_val (C8.pe_c I hr (by decide) (by rfl) (pa_cons (pe_ix ix_tup (pv 0) pe_int (fun _ _ => rfl)) pa_nil)))) (pw_or1 (pt_not (pt_val (C8.pe_c I hr (by decide) (by rfl) (pa_cons (pe_ix ix_tup (pv 0) pe_int (fun _ _ => rfl)) pa_nil))))))))
      (pss_one (ps_ret pe_bl)) pss_nil)
    (pss_one (ps_ret (pe_or (pe_cmpR op_isN (pe_ix ix_tup (pv 0) pe_int (fun _ _ => rfl)) pe_non (nomark _)) (pe_one (pe_and (C8.pe_c I hr (by decide) (by rfl) (pa_cons (pe_ix ix_tup (pv 0) pe_int (fun _ _ => rfl)) pa_nil)) (pe_one (pe_cmpR op_ne (pe_ix ix_tup (pv 0) pe_int (fun _ _ => rfl)) (C8.pe_gc rfl C.chapter) (nomark _)))))))), ?_⟩
  obtain ⟨⟨a, key, kind, goal, rfl, ha, h1, h2, h3⟩, k⟩ := h
  refine ⟨_, rfl, ⟨a, _, rfl, ha⟩, fun H1 s1 => ⟨true, rfl, ?_⟩⟩
  refine ⟨_, rfl, a, _, 0, _, rfl, rfl, .of (s1 _ _ ha), atI_nat (j := 0) rfl, ⟨key, rfl, h1⟩, fun H2 s2 => ⟨true, rfl, ?_⟩⟩
  refine ⟨_, rfl, a, _, 1, _, rfl, rfl, .of (s2 _ _ (s1 _ _ ha)), atI_nat (j := 1) rfl, ⟨kind, rfl, h2⟩, fun H3 s3 => ⟨true, rfl, ?_⟩⟩
  have ha3 := s3 _ _ (s2 _ _ (s1 _ _ ha))
  have s13 := (s1.trans s2).trans s3
  refine ⟨_, rfl, a, _, 2, _, rfl, rfl, .of ha3, atI_nat (j := 2) rfl, rfl, _, rfl, ?_⟩
  cases goal with
  | none => exact k _ s13
  | some g =>
    obtain ⟨hg, hn⟩ := h3 g rfl
    refine ⟨_, rfl, a, _, 2, _, rfl, rfl, .of ha3, atI_nat (j := 2) rfl, ⟨g, rfl, hg⟩, fun H4 s4 => ⟨true, rfl, ?_⟩⟩
    refine ⟨_, rfl, a, _, 1, _, rfl, rfl, .of (s4 _ _ ha3), atI_nat (j := 1) rfl, rfl, ?_⟩
    have e : (!decide (V.str kind = V.str "chapter")) = true := by
      rw [decide_eq_false (fun z => hn (by injection z))]
      rfl
    rw [e]
    exact k _ (s13.trans s4)
theorem scBad : FnScope ["value", "kinds", "index", "token"] ["value"] (defScope sFirstBad) := ⟨rfl, rfl, rfl, by decide +kernel, rfl, by decide +kernel, by decide +kernel⟩
/-- nothing is bad in nothing -/
def spBad : Sp := fun vs H Q _ => ∃ a, vs = [.ref a] ∧ H a = some (.tup []) ∧ ∀ H', Same H H' → Q .non H'
theorem same_new {H : Hp} {p : Addr} {o : HO} (h : H p = none) : Same H (upd H p o) := fun b u e => by rw [upd_ne (ne_of_none e h)]; exact e
theorem ok_firstBad (B : Bl mg) (F : FnA K mg "first_bad" sFirstBad) : C8.Cal P w K mg base 1 "first_bad" spBad [] := by
  refine F.cal scBad (fun _ _ _ _ _ _ us hl => match us, hl with | [_], _ => rfl) (fun vs H Q E h => by obtain ⟨a, rfl, _⟩ := h; rfl) fun f cdv A outer s H vs Q E hr h => ?_
  refine ⟨_, pss_cons (ps_if (pt_not (pt_val (pe_isi B (pv 0) B.tuple bT))) (pss_one ps_never) pss_nil)
    (pss_cons (ps_set (i := 1) scBad.nd rfl (Or.inl rfl) (pe_lst pa_nil))
    (pss_cons (ps_for PassesOwn.never rfl (pi_enumT B (pv 0)) (pg_tup rfl (pgs_cons (pg_name (i := 2) scBad.nd rfl (Or.inl rfl)) (pgs_cons (pg_name (i := 3) scBad.nd rfl (Or.inl rfl)) pgs_nil))) pss_never)
    (pss_one (ps_ret (pe_ifExp (pt_cmpR (op_eqD hr.units) (pv 1) (pe_lst pa_nil) (nomark _)) pe_non pe_no))))), ?_⟩
  obtain ⟨a, rfl, ha, k⟩ := h
  refine ⟨_, rfl, _, _, _, _, true, rfl, .ty "tuple", .base (.tup ha), kit_t', true, rfl, ?_⟩
  refine ⟨Nat.zero_le _, fun p hp => ?_⟩
  have hs := same_new (o := .lst []) hp
  have hap := hs _ _ ha
  refine ⟨_, rfl, a, [], rfl, .of hap, for_it (w := walk_enumT (K := K) (a := a) (xs := [])) (fun i σ H' => H' = upd H p (.lst []) ∧ ∃ x2 x3, σ = [some (.ref a), some (.ref p), x2, x3]) ⟨rfl, none, none, rfl⟩ (fun i σ H' hi h => by rw [h.1]; exact .of hap) (fun i x σ H1 H2 hi => absurd hi (Nat.not_lt_zero i)) ?_⟩
  rintro σ H' ⟨rfl, x2, x3, rfl⟩
  refine ⟨_, rfl, Nat.zero_le _, fun q hq => ?_⟩
  have hq2 := same_new (o := .lst []) hq
  refine ⟨.list [], .list [], .lst (.of (hq2 _ _ upd_same)) .nil, .lst (.of upd_same) .nil, rfl, rfl, _, rfl, ?_⟩
  exact k _ (hs.trans hq2)
end
end K39
/-! L7 -/
set_option maxHeartbeats 4000000
/-! is_content, is_item, need_part, first_items -/
namespace K39
open PySem PySem.Spec PyProof.Rows L2

section
variable {P : Program} {w : World} {K : PySem.W.Frag} {mg : Str → Option Value} {base : Heap}
theorem scContent : FnScope ["kind", "value"] ["kind", "value"] (defScope sIsContent) := ⟨rfl, rfl, rfl, by decide +kernel, rfl, by decide +kernel, by decide +kernel⟩
def cContent : List V → Hp → Prop := fun vs H => ∃ kind c, vs = [.str kind, c] ∧ ((kind = "chapter" ∧ ∃ e, c = .ref e ∧ H e = some (.tup [])) ∨ (kind ≠ "chapter" ∧ c = .str ""))
theorem ok_isContent (C : Cst mg) (F : FnA K mg "is_content" sIsContent) (T : C8.Cal P w K mg base 1 "first_bad" spBad []) (X : C8.Cal P w K mg base 2 "is_text_of" (spYes cXof) []) : C8.Cal P w K mg base 3 "is_content" (spYes cContent) [] := by
  refine F.cal scContent (fun _ _ _ _ _ _ us hl => match us, hl with | [_, _], _ => rfl) (fun vs H Q E h => by obtain ⟨⟨kind, c, rfl, _⟩, _⟩ := h; rfl) fun f cdv A outer s H vs Q E hr h => ?_
  refine ⟨_, pss_one (ps_ret (pe_ifExp (pt_cmpR op_eq (pv 0) (C8.pe_gc rfl C.chapter) (nomark _)) (pe_cmpR op_isN (C8.pe_c T hr (by decide) (by rfl) (pa_cons (pv 1) pa_nil)) pe_non (nomark _)) (C8.pe_c X hr (by decide) (by rfl) (pa_cons (pv 1) (pa_cons pe_int (pa_cons (C8.pe_gc rfl C.mostContent) pa_nil)))))), ?_⟩
  obtain ⟨⟨kind, c, rfl, h⟩, k⟩ := h
  refine ⟨_, rfl, rfl, _, rfl, ?_⟩
  rcases h with ⟨rfl, e, rfl, he⟩ | ⟨n, rfl⟩
  · rw [decide_eq_true rfl]
    exact ⟨_, rfl, e, rfl, he, fun H' s' => ⟨rfl, k _ s'⟩⟩
  · rw [decide_eq_false (fun z => n (by injection z))]
    exact ⟨_, rfl, rfl, k⟩
theorem scItem : FnScope ["value", "before"] ["value", "before"] (defScope sIsItem) := ⟨rfl, rfl, rfl, by decide +kernel, rfl, by decide +kernel, by decide +kernel⟩
def cItem : List V → Hp → Prop := fun vs H => ∃ a v t, vs = [.ref a, v] ∧ ItemAt H a t ∧ ItmOk t
theorem ok_isItem_at {f : Addr} {fd : FuncData} (F : Fun K "is_item" "is_item" sIsItem f fd) (T : C8.Cal P w K mg base 1 "is_tuple_of" (spYes cTof) []) (X : C8.Cal P w K mg base 2 "is_head" (spYes cHead) []) (Y : C8.Cal P w K mg base 3 "is_content" (spYes cContent) []) :
    FnOk P w K mg base CX0 4 f fd ["value", "before"] (spYes cItem) := by
  refine F.ok scItem (fun vs H Q E h => by obtain ⟨⟨a, v, t, rfl, _⟩, _⟩ := h; rfl) fun cdv A outer s H vs Q E hr h => ?_
  refine ⟨_, pss_cons (ps_if (PW.pt (pw_or (pt_not (pt_val (C8.pe_c T hr (by decide) (by rfl) (pa_cons (pv 0) (pa_cons pe_int pa_nil))))) (pw_or1 (pt_not (pt_val (C8.pe_c X hr (by decide) (by rfl) (pa_cons (pe_tup (pa_cons (pe_ix ix_tup (pv 0) pe_int (fun _ _ => rfl)) (pa_cons (pe_ix ix_tup (pv 0) pe_int (fun _ _ => rfl)) (pa_cons (pe_ix ix_tup (pv 0) pe_int (fun _ _ => rfl)) pa_nil)))) pa_nil)))))))
      (pss_one (ps_ret pe_bl)) pss_nil)
    (pss_one (ps_ret (C8.pe_c Y hr (by decide) (by rfl) (pa_cons (pe_ix ix_tup (pv 0) pe_int (fun _ _ => rfl)) (pa_cons (pe_ix ix_tup (pv 0) pe_int (fun _ _ => rfl)) pa_nil))))), ?_⟩
  obtain ⟨⟨a, v, t, rfl, ⟨c, ha, hc⟩, hk, hkd, hg⟩, k⟩ := h
  refine ⟨_, rfl, ⟨a, _, rfl, ha⟩, fun H1 s1 => ⟨true, rfl, ?_⟩⟩
  have ha1 := s1 _ _ ha
  refine ⟨_, rfl, a, _, 0, _, rfl, rfl, .of ha1, atI_nat (j := 0) rfl, _, rfl, a, _, 1, _, rfl, rfl, .of ha1, atI_nat (j := 1) rfl, _, rfl, a, _, 3, _, rfl, rfl, .of ha1, atI_nat (j := 3) rfl, ?_⟩
  refine ⟨(by show 3 ≤ sizeLine; exact small_sz (by decide)), fun p hp => ?_⟩
  have hs := same_new (o := .tup [.str t.key, .str t.kind, fbV t.goal]) hp
  refine ⟨⟨p, _, _, _, rfl, upd_same, hk, kinds_id hkd, fun g e => ⟨hg g e, fun z => ?_⟩⟩, fun H2 s2 => ⟨true, rfl, ?_⟩⟩
  · rcases hc with ⟨_, e2, _⟩ | ⟨n, _⟩
    · rw [e2] at e
      cases e
    · exact n z
  have ha2 := s2 _ _ (hs _ _ ha1)
  have sA := (s1.trans hs).trans s2
  refine ⟨_, rfl, a, _, 1, _, rfl, rfl, .of ha2, atI_nat (j := 1) rfl, _, rfl, a, _, 2, _, rfl, rfl, .of ha2, atI_nat (j := 2) rfl, ⟨_, _, rfl, ?_⟩, fun H3 s3 => k _ (sA.trans s3)⟩
  rcases hc with ⟨e1, _, e, e3, e4⟩ | ⟨n, e⟩
  · exact .inl ⟨e1, e, e3, sA _ _ e4⟩
  · exact .inr ⟨n, e⟩
theorem bindsItem {f : Addr} {fd : FuncData} (F : Fun K "is_item" "is_item" sIsItem f fd) : Binds K fd ["value", "before"] [] := F.binds (ps := ["value", "before"]) (fun _ _ _ _ _ _ us hl => match us, hl with | [_, _], _ => rfl)

abbrev nNeed : List Str := ["part", "value", "is_right", "before", "number", "element"]
theorem scNeed : FnScope nNeed ["part", "value", "is_right"] (defScope sNeedPart) := ⟨rfl, rfl, rfl, by decide +kernel, rfl, by decide +kernel, by decide +kernel⟩
/-- no part at all (one of the defaults), or items -/
def spNeed (K : PySem.W.Frag) (fI : Addr) : Sp := fun vs H Q _ => ∃ part a v, vs = [.str part, .ref a, v] ∧ ((∃ o : Obj, K.lookup a = some o ∧ o.cls = .type "tuple" ∧ SqT K H a []) ∨ (v = .ref fI ∧ ∃ as its, RowsAt H a as its ∧ its.length ≤ 40 ∧ ∀ t ∈ its, ItmOk t)) ∧ ∀ H', Same H H' → Q .non H'
theorem ok_need (B : Bl mg) (C : Cst mg) (F : FnA K mg "need_part" sNeedPart) {fI : Addr} {fdI : FuncData} (FI : Fun K "is_item" "is_item" sIsItem fI fdI) (GI : FnOk P w K mg base CX0 4 fI fdI ["value", "before"] (spYes cItem)) : C8.Cal P w K mg base 5 "need_part" (spNeed K fI) [] := by
  refine F.cal scNeed (fun _ _ _ _ _ _ us hl => match us, hl with | [_, _, _], _ => rfl) (fun vs H Q E h => by obtain ⟨part, a, v, rfl, _⟩ := h; rfl) fun f cdv A outer s H vs Q E hr h => ?_
  refine ⟨_, pss_cons (ps_if (PW.pt (pw_or (pt_not (pt_val (pe_isi B (pv 1) B.tuple bT))) (pw_or1 (pt_cmpR op_gt (pe_lenS B (pv 1)) (C8.pe_gc rfl C.mostElements) (nomark _))))) (pss_one ps_never) pss_nil)
    (pss_cons (ps_set (i := 3) scNeed.nd rfl (Or.inl rfl) pe_non)
    (pss_one (ps_for PassesOwn.never rfl (pi_enumT B (pv 1)) (pg_tup rfl (pgs_cons (pg_name (i := 4) scNeed.nd rfl (Or.inl rfl)) (pgs_cons (pg_name (i := 5) scNeed.nd rfl (Or.inl rfl)) pgs_nil)))
      (pss_cons (ps_if (pt_not (pt_val (pe_callL (i := 2) GI hr rfl (Or.inl rfl) FI.kp (bindsItem FI) .nil pass0 (pa_cons (pv 5) (pa_cons (pv 3) pa_nil))))) (pss_one ps_never) pss_nil)
      (pss_one (ps_set (i := 3) scNeed.nd rfl (Or.inl rfl) (pv 5))))))), ?_⟩
  obtain ⟨part, a, v, rfl, h, k⟩ := h
  have key : ∃ xs, SqT K H a xs ∧ TyX K H (.ref a) (.type "tuple") ∧ xs.length ≤ 40 ∧ (xs = [] ∨ v = .ref fI) ∧ ∀ (i : Nat) x, xs[i]? = some x → ∃ u t, x = .ref u ∧ ItemAt H u t ∧ ItmOk t := by
    rcases h with ⟨o, h1, h2, h3⟩ | ⟨rfl, as, its, hr', hl, ho⟩
    · exact ⟨[], h3, .kTuple h1 h2, Nat.zero_le _, .inl rfl, fun i x e => by simp at e⟩
    · refine ⟨as.map V.ref, .of hr'.1, .base (.tup hr'.1), ?_, .inr rfl, fun i x e => ?_⟩
      · rw [List.length_map, Paired.length hr'.2]
        exact hl
      · rw [List.getElem?_map] at e
        obtain ⟨u, hu, rfl⟩ := Option.map_eq_some_iff.mp e
        have get : ∀ {as : List Addr} {its : List Itm} {i : Nat}, Paired (ItemAt H) as its → (∀ t ∈ its, ItmOk t) → as[i]? = some u → ∃ t, ItemAt H u t ∧ ItmOk t := by
          intro as its i hp
          induction hp generalizing i with
          | nil => intro _ e; simp at e
          | cons h t ih =>
            intro ho e
            cases i with
            | zero =>
              simp at e
              subst e
              exact ⟨_, h, ho _ List.mem_cons_self⟩
            | succ j => exact ih (fun t ht => ho t (List.mem_cons_of_mem _ ht)) (by simpa using e)
        obtain ⟨t, h1, h2⟩ := get hr'.2 ho hu
        exact ⟨u, t, rfl, h1, h2⟩
  obtain ⟨xs, hS, hT, hl, hv, hit⟩ := key
  refine ⟨_, rfl, _, _, _, _, true, rfl, .ty "tuple", hT, kit_t', true, rfl, ?_⟩
  refine ⟨_, rfl, _, _, rfl, .inr hS, _, _, rfl, rfl, _, rfl, ?_⟩
  rw [decide_eq_false (show ¬ (40 : Int) < (xs.length : Int) by omega)]
  have keepS : ∀ {H' : Hp}, Same H H' → SqT K H' a xs := fun {H'} sm => by
    rcases hS with (e | ⟨o, e⟩) | e
    · exact .inl (.inl (sm _ _ e))
    · exact .inl (.inr ⟨o, sm _ _ e⟩)
    · exact .inr e
  refine ⟨_, rfl, a, xs, rfl, hS, for_it (w := walk_enumT (K := K) (a := a) (xs := xs)) (fun i σ H' => Same H H' ∧ ∃ x3 x4 x5, σ = [some (.str part), some (.ref a), some v, some x3, x4, x5]) ⟨Same.refl _, _, none, none, rfl⟩ (fun i σ H' hi h => keepS h.1) ?_ ?_⟩
  · rintro i z σ H1 H2 hi ⟨sm, x3, x4, x5, rfl⟩ ⟨T, n, x, rfl, hT1, rfl, hn, hx⟩
    obtain ⟨u, t, rfl, h1, h2⟩ := hit i x hx
    have hv' : v = .ref fI := hv.resolve_left fun z => by rw [z] at hx; simp at hx
    subst hv'
    have sT := same_new (o := .tup [n, .ref u]) hT1
    refine ⟨T, _, rfl, .of upd_same, rfl, n, _, rfl, .ref u, _, rfl, rfl, ?_⟩
    refine ⟨rfl, _, rfl, _, rfl, ⟨u, _, t, rfl, (h1.keep (.same (sm.trans sT))), h2⟩, fun H3 s3 => ⟨true, rfl, ?_⟩⟩
    exact ⟨_, rfl, (sm.trans sT).trans s3, _, _, _, rfl⟩
  · rintro σ H' ⟨sm, x3, x4, x5, rfl⟩
    exact k _ sm
end
end K39
/-! L8 -/
set_option maxHeartbeats 4000000
/-! first_items -/
namespace K39
open PySem PySem.Spec PyProof.Rows L2

/-- what the rows say of an id: the first item with it -/
def lkOf (its : List Itm) : Lk := fun x => (its.find? fun t => decide (t.key = x)).map fun t => (t.kind, t.goal)
theorem lkOf_snoc (its : List Itm) (t : Itm) (x : Str) : lkOf (its ++ [t]) x = match lkOf its x with
    | some z => some z
    | none => if t.key = x then some (t.kind, t.goal) else none := by
  unfold lkOf
  rw [List.find?_append]
  cases e : its.find? fun t => decide (t.key = x) with
  | some z => rfl
  | none =>
    by_cases h : t.key = x
    · simp [h]
    · simp [h]
theorem itemsAre_keep {H H' : Hp} {kvs : List (Key × V)} {lk : Lk} (h : ItemsAre H kvs lk) (k : TK H H') : ItemsAre H' kvs lk :=
  ⟨h.no, fun x kd fb e => let ⟨it, c, h1, h2⟩ := h.yes x kd fb e; ⟨it, c, h1, k _ _ h2⟩⟩
theorem take_succ_of {α : Type} {l : List α} {i : Nat} {x : α} (h : l[i]? = some x) : l.take (i + 1) = l.take i ++ [x] := by
  rw [List.take_succ, h]
  rfl
theorem paired_at {α β : Type} {F : α → β → Prop} {xs : List α} {ys : List β} (h : Paired F xs ys) : ∀ {i : Nat} {x : α}, xs[i]? = some x → ∃ y, ys[i]? = some y ∧ F x y := by
  induction h with
  | nil => intro i x e; simp at e
  | cons r t ih =>
    intro i x e
    cases i with
    | zero => simp at e; subst e; exact ⟨_, rfl, r⟩
    | succ j =>
      obtain ⟨y, hy, hf⟩ := ih (i := j) (by simpa using e)
      exact ⟨y, by simpa using hy, hf⟩
def spFirstItems : Sp := fun vs H Q _ => ∃ r as its, vs = [.ref r] ∧ RowsAt H r as its ∧ its.length ≤ 1000 ∧ ∀ (H' : Hp) (p : Addr) (kvs : List (Key × V)), Same H H' → H p = none → H' p = some (.dK kvs) → ItemsAre H' kvs (lkOf its) → Q (.ref p) H'
section
variable {P : Program} {w : World} {K : PySem.W.Frag} {mg : Str → Option Value} {base : Heap}
theorem scFI : FnScope ["items", "found", "item"] ["items"] (defScope sFirstItems) := ⟨rfl, rfl, rfl, by decide +kernel, rfl, by decide +kernel, by decide +kernel⟩
theorem ok_firstItems (F : FnA K mg "first_items" sFirstItems) : C8.Cal P w K mg base 1 "first_items" spFirstItems [] := by
  refine F.cal scFI (fun _ _ _ _ _ _ us hl => match us, hl with | [_], _ => rfl) (fun vs H Q E h => by obtain ⟨r, as, its, rfl, _⟩ := h; rfl) fun f cdv A outer s H vs Q E hr h => ?_
  refine ⟨_, pss_cons (ps_set (i := 1) scFI.nd rfl (Or.inl rfl) pe_dnewK)
    (pss_cons (ps_for PassesOwn.never rfl (pi_tup (pv 0)) (pg_name (i := 2) scFI.nd rfl (Or.inl rfl))
      (pss_one (ps_expr (pe_dsetd (pv 1) (pe_ix ix_tup (pv 2) pe_int (fun _ _ => rfl)) (pv 2) ⟨rfl, rfl, rfl, rfl⟩))))
    (pss_one (ps_ret (pv 1)))), ?_⟩
  obtain ⟨r, as, its, rfl, hr', hl, k⟩ := h
  intro p hp
  have s0 := same_new (o := .dK []) hp
  have hlen := Paired.length hr'.2
  refine ⟨_, rfl, r, rfl, ⟨_, .of (s0 _ _ hr'.1)⟩, for_tup (K := K) (a := r) (xs := as.map V.ref) (fun i σ H' => Same H H' ∧ ∃ kvs x2, σ = [some (.ref r), some (.ref p), x2] ∧ H' p = some (.dK kvs) ∧ kvs.length ≤ i ∧ ItemsAre H' kvs (lkOf (its.take i)))
    ⟨s0, [], none, rfl, upd_same, Nat.le_refl _, fun x _ => rfl, fun x kd fb e => by simp [lkOf] at e⟩ (fun i σ H' hi h => .of (h.1 _ _ hr'.1)) ?_ ?_⟩
  · rintro i z σ H1 hi ⟨sm, kvs, x2, rfl, h1, h2, h3⟩
    rw [List.getElem?_map] at hi
    obtain ⟨u, hu, rfl⟩ := Option.map_eq_some_iff.mp hi
    obtain ⟨t, ht, hat⟩ := paired_at hr'.2 hu
    obtain ⟨c, hc, _⟩ := hat.keep (.same sm)
    have hil : i < its.length := (List.getElem?_eq_some_iff.mp ht).1
    refine ⟨_, rfl, p, rfl, .inl ⟨_, .of h1⟩, _, rfl, u, _, 0, _, rfl, rfl, .of hc, atI_nat (j := 0) rfl, _, rfl, kvs, .inr t.key, h1, rfl, small1000 (by omega), fun v hv => ?_, fun hv => ?_⟩
    · refine ⟨sm, kvs, _, rfl, h1, by omega, ?_⟩
      rw [take_succ_of ht]
      refine ⟨fun x hx => ?_, fun x kd fb hx => ?_⟩
      · rw [lkOf_snoc] at hx
        cases e : lkOf (its.take i) x with
        | some z => rw [e] at hx; cases hx
        | none => exact h3.no x e
      · rw [lkOf_snoc] at hx
        cases e : lkOf (its.take i) x with
        | some z =>
          rw [e] at hx
          cases hx
          exact h3.yes x _ _ e
        | none =>
          rw [e] at hx
          have hx' : (if t.key = x then some (t.kind, t.goal) else none) = some (kd, fb) := hx
          by_cases hk : t.key = x
          · have := h3.no x e
            rw [← hk, hv] at this
            cases this
          · rw [if_neg hk] at hx'
            cases hx'
    · have tk : TK H1 (upd H1 p (.dK (putK kvs (.inr t.key) (.ref u)))) := fun b xs e => by rw [upd_ne (ne_of e h1 (by simp))]; exact e
      have hnone : lkOf (its.take i) t.key = none := by
        cases e : lkOf (its.take i) t.key with
        | none => rfl
        | some z =>
          obtain ⟨it, c, hv', _⟩ := h3.yes t.key z.1 z.2 e
          rw [hv] at hv'
          cases hv'
      refine ⟨fun b o e => by rw [upd_ne (ne_of_none e hp)]; exact sm b o e, _, _, rfl, upd_same, ?_, ?_⟩
      · rw [putK_new _ hv, List.length_append]
        show _ + 1 ≤ _
        omega
      rw [take_succ_of ht]
      refine ⟨fun x hx => ?_, fun x kd fb hx => ?_⟩
      · rw [lkOf_snoc] at hx
        cases e : lkOf (its.take i) x with
        | some z => rw [e] at hx; cases hx
        | none =>
          rw [e] at hx
          have hx' : (if t.key = x then some (t.kind, t.goal) else none) = none := hx
          by_cases hk : t.key = x
          · rw [if_pos hk] at hx'
            cases hx'
          · rw [valV_put, if_neg (fun z => hk (by injection z with z; exact z.symm))]
            exact h3.no x e
      · rw [lkOf_snoc] at hx
        cases e : lkOf (its.take i) x with
        | some z =>
          rw [e] at hx
          cases hx
          obtain ⟨it, c', hv', ht'⟩ := h3.yes x _ _ e
          have hk : ¬ x = t.key := fun q => by rw [q, hnone] at e; cases e
          refine ⟨it, c', ?_, tk _ _ ht'⟩
          rw [valV_put, if_neg (fun z => hk (by injection z))]
          exact hv'
        | none =>
          rw [e] at hx
          have hx' : (if t.key = x then some (t.kind, t.goal) else none) = some (kd, fb) := hx
          by_cases hk : t.key = x
          · rw [if_pos hk] at hx'
            cases hx'
            subst hk
            refine ⟨u, c, ?_, tk _ _ hc⟩
            rw [valV_put, if_pos rfl]
          · rw [if_neg hk] at hx'
            cases hx'
  · rintro σ H' ⟨sm, kvs, x2, rfl, h1, h2, h3⟩
    rw [List.length_map, hlen, List.take_length] at h3
    exact ⟨_, rfl, k H' p kvs sm hp h1 h3⟩
end
end K39
/-! L9 -/
set_option maxHeartbeats 4000000
/-! the book is made -/
namespace K39
open PySem PySem.Spec PyProof.Rows L2

/-- an empty tuple of the module's own -/
def EK (K : PySem.W.Frag) (e : Addr) : Prop := ∃ (o : Obj) (n : Nat), K.lookup e = some o ∧ o.cls = .type "tuple" ∧ o.data = .seq #[] n
theorem EK.sq {K : PySem.W.Frag} {e : Addr} {H : Hp} (h : EK K e) : SqT K H e [] := by
  obtain ⟨o, n, h1, h2, h3⟩ := h
  exact .inr ⟨o, #[], n, h1, h2, h3, Nat.zero_le _, .nil⟩
/-- what the top has of Book(..) -/
structure MkBk (K : PySem.W.Frag) (mg : Str → Option Value) (C fI e1 e2 e3 e4 : Addr) (fd : FuncData) : Prop where
  gC : mg "Book" = some (.ref C)
  mkc : Mk K C fI
  cl : Cls K C
  nP : NoAttr K C "own_parts"
  nI : NoAttr K C "own_items"
  fd : FunD K "__init__" "Book.__init__" (defArgs sBookInit) (defBody sBookInit) (defScope sBookInit) [] [("fields", .ref e1), ("items", .ref e2), ("slots", .ref e3), ("contents", .ref e4)] fI fd
  k1 : EK K e1
  k3 : EK K e3
  k4 : EK K e4
  gF : ∃ a, mg "is_field" = some (.ref a)
  gS : ∃ a, mg "is_slot" = some (.ref a)
  gE : ∃ a, mg "is_entry" = some (.ref a)
/-- the book at bk: its parts, its items -/
structure BookP (H : Hp) (C bk r e1 e3 e4 : Addr) (lk : Lk) : Prop where
  ex : ∃ dx q p kvs fs, H bk = some (.ins C dx fs) ∧ fs.lookup ("own_parts" : Str) = some (.ref q) ∧ fs.lookup ("own_items" : Str) = some (.ref p) ∧ H q = some (.tup [.ref e1, .ref r, .ref e3, .ref e4]) ∧ H p = some (.dK kvs) ∧ ItemsAre H kvs lk
theorem BookP.f {H : Hp} {C bk r e1 e3 e4 : Addr} {lk : Lk} (h : BookP H C bk r e1 e3 e4 lk) : BookF H C bk lk := by
  obtain ⟨dx, q, p, kvs, fs, h1, h2, h3, h4, h5, h6⟩ := h.ex
  exact ⟨dx, p, fs, kvs, ⟨h1, h3, h5⟩, h6⟩
def spInit (C e1 e3 e4 : Addr) : Sp := fun vs H Q _ => ∃ bk dx r as its, vs = [.ref bk, .ref e1, .ref r, .ref e3, .ref e4] ∧ H bk = some (.ins C dx []) ∧ RowsAt H r as its ∧ its.length ≤ 40 ∧ (∀ t ∈ its, ItmOk t) ∧
  ∀ H', (∀ b o, b ≠ bk → H b = some o → H' b = some o) → BookP H' C bk r e1 e3 e4 (lkOf its) → Q .non H'
section
variable {P : Program} {w : World} {K : PySem.W.Frag} {mg : Str → Option Value} {base : Heap}
abbrev nInit : List Str := ["self", "fields", "items", "slots", "contents"]
theorem scInit : FnScope nInit nInit (defScope sBookInit) := ⟨rfl, rfl, rfl, by decide +kernel, rfl, by decide +kernel, by decide +kernel⟩
theorem ok_init {C fB e1 e2 e3 e4 fI : Addr} {fd : FuncData} (T : MkBk K mg C fB e1 e2 e3 e4 fd) (gI : mg "is_item" = some (.ref fI)) (N : C8.Cal P w K mg base 5 "need_part" (spNeed K fI) []) (F : C8.Cal P w K mg base 1 "first_items" spFirstItems []) :
    FnOk P w K mg base CX0 6 fB fd nInit (spInit C e1 e3 e4) := by
  refine T.fd.ok scInit (fun vs H Q E h => by obtain ⟨bk, dx, r, as, its, rfl, _⟩ := h; rfl) fun cdv A outer s H vs Q E hr h => ?_
  obtain ⟨aF, gF⟩ := T.gF
  obtain ⟨aS, gS⟩ := T.gS
  obtain ⟨aE, gE⟩ := T.gE
  refine ⟨_, PSs.nox (pss_cons (ps_expr (C8.pe_c N hr (by decide) (by rfl) (pa_cons pe_str (pa_cons (pv 1) (pa_cons (pe_glob (by rfl) gF (v := .ref aF) rfl) pa_nil)))))
    (pss_cons (ps_expr (C8.pe_c N hr (by decide) (by rfl) (pa_cons pe_str (pa_cons (pv 2) (pa_cons (pe_glob (by rfl) gI (v := .ref fI) rfl) pa_nil)))))
    (pss_cons (ps_expr (C8.pe_c N hr (by decide) (by rfl) (pa_cons pe_str (pa_cons (pv 3) (pa_cons (pe_glob (by rfl) gS (v := .ref aS) rfl) pa_nil)))))
    (pss_cons (ps_expr (C8.pe_c N hr (by decide) (by rfl) (pa_cons pe_str (pa_cons (pv 4) (pa_cons (pe_glob (by rfl) gE (v := .ref aE) rfl) pa_nil)))))
    (pss_cons (ps_fld (pv 0) (pe_tup (pa_cons (pv 1) (pa_cons (pv 2) (pa_cons (pv 3) (pa_cons (pv 4) pa_nil))))) (by rfl))
    (pss_one (ps_fld (pv 0) (C8.pe_c F hr (by decide) (by rfl) (pa_cons (pv 2) pa_nil)) (by rfl)))))))), ?_⟩
  obtain ⟨bk, dx, r, as, its, rfl, hb, hR, hl, hok, k⟩ := h
  have kt : ∀ {e : Addr} {H : Hp}, EK K e → ∃ o : Obj, K.lookup e = some o ∧ o.cls = .type "tuple" ∧ SqT K H e [] := fun {e H} h => by
    obtain ⟨o, n, h1, h2, _⟩ := id h
    exact ⟨o, h1, h2, h.sq⟩
  refine ⟨_, rfl, _, _, _, rfl, .inl (kt T.k1), fun H1 s1 => ?_⟩
  refine ⟨_, rfl, _, _, _, rfl, .inr ⟨rfl, as, its, hR.keep (.same s1), hl, hok⟩, fun H2 s2 => ?_⟩
  refine ⟨_, rfl, _, _, _, rfl, .inl (kt T.k3), fun H3 s3 => ?_⟩
  refine ⟨_, rfl, _, _, _, rfl, .inl (kt T.k4), fun H4 s4 => ?_⟩
  have sA := ((s1.trans s2).trans s3).trans s4
  refine ⟨_, rfl, _, rfl, _, rfl, _, rfl, (by show 4 ≤ sizeLine; exact small_sz (by decide)), fun q hq => ?_⟩
  have sq := same_new (o := .tup [.ref e1, .ref r, .ref e3, .ref e4]) hq
  have hb5 := sq _ _ (sA _ _ hb)
  refine ⟨_, rfl, bk, C, dx, [], rfl, hb5, T.cl, T.nP, by decide, ?_⟩
  have kb : ∀ b o, b ≠ bk → H b = some o → (upd (upd H4 q (.tup [.ref e1, .ref r, .ref e3, .ref e4])) bk (.ins C dx (putF "own_parts" (.ref q) []))) b = some o := fun b o n e => by rw [upd_ne n]; exact sq _ _ (sA _ _ e)
  have tk : TK H (upd (upd H4 q (.tup [.ref e1, .ref r, .ref e3, .ref e4])) bk (.ins C dx (putF "own_parts" (.ref q) []))) := fun b xs e => kb b _ (ne_of e hb (by simp)) e
  have hbn : (upd (upd H4 q (.tup [.ref e1, .ref r, .ref e3, .ref e4])) bk (.ins C dx (putF "own_parts" (.ref q) []))) bk = some (.ins C dx (putF "own_parts" (.ref q) [])) := upd_same
  have hqn : (upd (upd H4 q (.tup [.ref e1, .ref r, .ref e3, .ref e4])) bk (.ins C dx (putF "own_parts" (.ref q) []))) q = some (.tup [.ref e1, .ref r, .ref e3, .ref e4]) := by
    rw [upd_ne (Ne.symm (ne_of_none (sA _ _ hb) hq))]
    exact upd_same
  refine ⟨_, rfl, r, as, its, rfl, hR.keep tk, by omega, fun H6 p kvs s6 hp h6 hI => ?_⟩
  refine ⟨_, rfl, bk, C, dx, _, rfl, s6 _ _ hbn, T.cl, T.nI, (by show 1 < 1000; decide), ?_⟩
  have npb : p ≠ bk := Ne.symm (ne_of_none hbn hp)
  refine k _ (fun b o n e => ?_) ⟨dx, q, p, kvs, _, upd_same, rfl, rfl, ?_, ?_, ?_⟩
  · rw [upd_ne n]
    exact s6 _ _ (kb b o n e)
  · rw [upd_ne (Ne.symm (ne_of_none (sA _ _ hb) hq))]
    exact s6 _ _ hqn
  · rw [upd_ne npb]
    exact h6
  · exact itemsAre_keep hI fun b xs e => by rw [upd_ne (ne_of e (s6 _ _ hbn) (by simp))]; exact e
end
end K39
/-! Rz -/
set_option maxHeartbeats 2000000
/-! a generator whose first statement raises -/
namespace K39
open PySem PySem.Spec PyProof.Rows L2 GenW

def GMadeR (P : Program) (w : World) (k : Nat) (outer : List Env) (H : Hp) (s : Shared) (E : XK) (u : Value) (s' : Shared) : Prop :=
  ∃ (a : Addr) (g : Nat) (c : Code), u = .ref a ∧ s.heap.objs.size ≤ a ∧ a < s'.heap.objs.size ∧ s'.heap.IsGen a g ∧ s'.gens[g]? = some (.fresh c) ∧ s'.os = s.os ∧ AllBare s'.gens ∧ s'.heap.NoLimit ∧ (∀ b o, s.heap.get? b = some o → s'.heap.get? b = some o) ∧
    ∀ (A : Around) (s2 : Shared), Room k A → A.frames = some outer → (∀ b o, s'.heap.get? b = some o → s2.heap.get? b = some o) → s2.os = s.os → AllBare s2.gens →
      ∀ (Y : Protocol) (n : Nat), Seg (model P w) A (fun _ _ r s1 => ∃ e, r = .error e ∧ CX P w outer H s E e s1 ∧ s1.heap.IsGen a g) Y n s2 c ((model P w).den c) [] s2

theorem gfnr_of {P : Program} {w : World} {K : PySem.W.Frag} {mg : Str → Option Value} {base : Heap} {k : Nat} {f : Addr} {name qual : Str} {params : Arguments} {st : Stmt} {rest : List Stmt} {scope : Scope} {dV kV doc pm cdv ct oc : Value} {an od : Option Addr}
    {osl : Array (Option Value)} {N ps : List Str} (lk : K.lookup f = some ⟨oc, od, .func (PySem.W.fnOf name qual params (st :: rest) scope dV kV doc pm an cdv ct), osl⟩) (hcd : PySem.W.codeIn K cdv qual = true) (S : GScope N ps scope)
    {A : Around} {outer : List Env} {s : Shared} {H : Hp} {args : Args} {us : List Value} {vs : List V} {E : XK} (hl : vs.length = ps.length)
    (hbody : ∀ (A : Around) (pn : List (Addr × Obj)), Room k (A.deeper (envOfC qual scope s.heap.objs.size f cdv)) →
      ∃ t, PS (gcxOf P w K mg base N qual scope f cdv A outer s H E pn) st t ∧ t { nx := fun _ _ => False, rt := fun _ _ => False } (start N vs) H)
    (hr : Room (k + 1) A) (e0 : Env0 P w K mg base A outer s H) (hb : BindsTo s (PySem.W.fnOf name qual params (st :: rest) scope dV kV doc pm an cdv ct) args (ps.zip us)) (r : Vals vs us) :
    codeAny (model P w) A (.call (.ref f) args) (fun r s' => match r with | .ok (.ret u) => GMadeR P w (k + 1) outer H s E u s' | _ => False) s := by
  have KX : K.In s.heap := e0.mod.kin.keeps fun b o e => (e0.bs b o e).1
  have lim : s.heap.NoLimit := e0.mod.nolimit.keeps fun b o e => (e0.bs b o e).1
  have hkind : ∀ y ∈ ps.zip us, scope.names.lookup y.1 = some .local ∨ (scope.names.lookup y.1 = some .cell ∧ ((cellsFrom (s.heap.objs.size + 1) scope.names []).lookup y.1).isSome = true) := fun ⟨n, v⟩ hy => by
    rcases S.par n (List.of_mem_zip hy).1 with q | q
    · exact .inl q
    · exact .inr ⟨q, PySem.W.cellsFrom_some _ _ _ (.inl q)⟩
  refine codeAny_call_generator hr.depth (KX _ _ lk) rfl S.co S.gen rfl (PySem.W.codeRec_of KX hcd) (hb _ _ _ _ ?_)
  refine wpAny_newFunctionEnv_cells S.kind hkind fun env he s1 x => ?_
  subst he
  have lim1 : s1.heap.NoLimit := lim.keeps x.toInCall.keep
  refine ⟨lim1, ?_⟩
  obtain ⟨h1, tk, es1, hk1⟩ := x.done
  have os1 : s1.os = s.os := by rw [es1]
  have gen1 : s1.gens = s.gens := by rw [es1]
  have lt1 : s.heap.objs.size < s1.heap.objs.size := x.toInCall.ns.lt
  have sz1 : s.heap.objs.size ≤ s1.heap.objs.size := Nat.le_of_lt lt1
  have kp1 : ∀ b o, s.heap.get? b = some o → s1.heap.get? b = some o := x.toInCall.keep
  have main : ∀ (go : Obj) (nm qn : Value) (tk2 : Nat), go.cls = .type "generator" → go.data = .fields #[.int s1.gens.size 0, nm, qn] → go.slots = #[] → (∀ h : Heap, (h.push go).get? h.objs.size = some go) →
      GMadeR P w (k + 1) outer H s E (.ref s1.heap.objs.size) { s1 with gens := s1.gens.push (.fresh (.func (st :: rest) (envOfC qual scope s.heap.objs.size f cdv))), toks := tk2, heap := s1.heap.push go } := by
    intro go nm qn tk2 hgc hgd0 hgs hgp
    have hgen : ∀ h : Heap, h.get? s1.heap.objs.size = some go → h.IsGen s1.heap.objs.size s1.gens.size := fun h e => ⟨go, nm, qn, e, hgc, hgd0, hgs⟩
    have hpushed : (s1.heap.push go).get? s1.heap.objs.size = some go := hgp _
    refine ⟨s1.heap.objs.size, s1.gens.size, _, rfl, sz1, ?_, hgen _ hpushed, Array.getElem?_push_size .., os1, ?_, lim1.keeps fun b o e => Heap.get?_push_of_some _ e, fun b o e => Heap.get?_push_of_some _ (kp1 b o e), ?_⟩
    · show _ < (s1.heap.push _).objs.size
      rw [Heap.size_push]; exact Nat.lt_succ_self _
    · exact AllBare.push (by rw [gen1]; exact e0.bare) rfl
    intro Aw s2 hrw hfr hk2 hos hba Y n
    have e0w : Env0 P w K mg base Aw outer s H := ⟨hfr, e0.mod, e0.bs, e0.bsz, e0.funs, e0.frf, e0.hok, e0.bare⟩
    obtain ⟨t, ht, hq⟩ := hbody Aw [(s1.heap.objs.size, go)] (hrw.deeper _)
    have I1 : Inv (gcxOf P w K mg base N qual scope f cdv Aw outer s H E []) [] (start N vs) H s1 := inv_startG S hrw.hd e0w hl r x
    have kp2 : ∀ b o, s1.heap.get? b = some o → s2.heap.get? b = some o := fun b o e => hk2 b o (Heap.get?_push_of_some _ e)
    have I2 : Inv (gcxOf P w K mg base N qual scope f cdv Aw outer s H E []) [] (start N vs) H s2 :=
      I1.call' (ch := []) (hos.trans os1.symm) (Un.kept kp2) (I1.hok.kept kp2) hba fun b z => by simp at z
    have hea : s2.heap.get? s1.heap.objs.size = some go := hk2 s1.heap.objs.size go hpushed
    have hgd : ∀ v, go.data ≠ .cell v := fun v q => by rw [hgd0] at q; cases q
    have I3 : Inv (gcxOf P w K mg base N qual scope f cdv Aw outer s H E [(s1.heap.objs.size, go)]) [] (start N vs) H s2 := Inv.pinnedG I2 fun p hp => by
      rcases List.mem_append.mp hp with z | z
      · rw [List.mem_singleton.mp z]
        exact ⟨hea, I1.hok.fresh (Nat.le_refl _), Nat.ne_of_gt lt1, I1.nofs (Nat.le_refl _), hgd⟩
      · simp at z
    refine seg_func ?_
    refine seg_execs_cons (st := st) (rest := rest) ?_
    refine seg_wrap ?_
    rw [over_func]
    refine wpAny_mono (ht.run [] s2 (start N vs) H _ I3 hq) (fun f s' hs => ?_) fun e s' hx => ?_
    · cases f with
      | next => obtain ⟨_, _, _, z⟩ := hs; exact z.elim
      | brk => obtain ⟨_, _, _, z⟩ := hs; exact z.elim
      | cont => obtain ⟨_, _, _, z⟩ := hs; exact z.elim
      | ret u => obtain ⟨_, _, _, _, _, z⟩ := hs; exact z.elim
    · refine seg_wrap ?_
      rw [over_func]
      refine wpAny_mono (show wpAny (model P w) (Aw.deeper (envOfC qual scope s.heap.objs.size f cdv)) (leaving (envOfC qual scope s.heap.objs.size f cdv) e) (fun _ s'' => CX P w outer H s E e s'' ∧ ∀ p ∈ [(s1.heap.objs.size, go)], s''.heap.get? p.1 = some p.2) (fun _ _ => False) s' from hx) (fun _ s'' q => ?_) fun _ s'' q => q.elim
      exact seg_end (.error e) ⟨e, rfl, q.1, hgen _ (q.2 (s1.heap.objs.size, go) (List.mem_singleton.mpr rfl))⟩
  exact main _ _ _ _ rfl rfl rfl fun h => Heap.get?_push_size _ rfl

section
variable {X : Cx} {pins : List (Addr × Obj)} {σ : L2.St} {H : Hp} {s s' s2 : Shared} {E : XK} {k : Nat}
/-- behind the call: still ours -/
theorem GMadeR.inv {u : Value} (I : Inv X pins σ H s) (G : GMadeR X.prog X.w k X.stack H s E u s') : Inv X pins σ H s' := by
  obtain ⟨a, g, c, _, _, _, _, _, os, hb, _, hk, _⟩ := G
  exact I.call' (ch := []) os (Un.kept hk) (I.hok.kept hk) hb fun b z => by simp at z
/-- its first turn -/
theorem turnR {A0 : Around} {a : Addr} {Q : Option Value → Shared → Prop} (I : Inv X pins σ H s) (G : GMadeR X.prog X.w k X.stack H s E (.ref a) s') (hx : Passes (CX X.prog X.w) X E) (hns : NoStop X.K E) (hr : Room (k + 1) A0) (hfr : A0.frames = some X.stack)
    (hk2 : ∀ b o, s'.heap.get? b = some o → s2.heap.get? b = some o) (os2 : s2.os = s'.os) (g2 : s2.gens = s'.gens) : NextOk X.prog X.w A0 a Q X.xe s2 := by
  obtain ⟨a', g, c, ea, h1, h2, hg, hgs, os, hb, hl, hk, wake⟩ := G
  cases ea
  refine nextS (n := 0) (F := fun _ _ _ => False) (Er := fun e s1 => CX X.prog X.w X.stack H s E e s1 ∧ s1.heap.IsGen a g) (Y := fun _ _ _ _ _ => False) hr.hd (hl.keeps hk2) (by have := hr.dp; omega) (hg.keeps hk2) (gs := .fresh c) (by rw [g2]; exact hgs) ⟨rfl, ?_⟩ (fun _ _ _ _ _ _ _ z => z.elim) (fun _ z => z.elim) fun e s1 he => ?_
  · refine seg_imp (R := fun _ _ r s1 => ∃ e, r = .error e ∧ CX X.prog X.w X.stack H s E e s1 ∧ s1.heap.IsGen a g) (Y := fun _ _ _ _ _ => False) (fun _ _ _ _ ⟨e, h1, h2⟩ => .inr ⟨e, h1, h2⟩) (fun _ _ _ _ _ _ _ z => z) 0 (wake A0.in1 (s2.setGen g .running) ⟨hr.hd, ?_, ?_⟩ hfr hk2 (os2.trans os) (allBare_setGen (by rw [g2]; exact hb) rfl) _ _)
    · have := hr.dp
      show A0.depth + 3 * k + 5 < _
      omega
    · have := hr.un
      show A0.units + 1 + 16 * k + 200 < _
      omega
  · obtain ⟨hc, hg1⟩ := he
    have kin : X.K.In s1.heap := by
      obtain ⟨a, B, H', cls, d, _, fl, _, ub, _⟩ := id hc
      refine I.ok.mod.kin.keeps fun b o eb => fl.1 b o (ub.keep b o (I.bs b o eb).1 (I.bs b o eb).2 fun hm => ?_)
      rcases List.mem_cons.mp (I.stkSub b hm) with z | z
      · have h1 := Heap.lt_size eb
        have h2 := Nat.le_trans I.ok.bsz I.ok.above
        rw [z] at h1
        exact absurd (Nat.lt_of_lt_of_le h1 h2) (Nat.lt_irrefl _)
      · exact I.ok.nofr eb z
    refine ⟨hg1, notStop_of hns kin hc, hx pins σ H s e _ I ?_⟩
    obtain ⟨a, B, H', cls, d, z1, fl, z2, ub, z3, z4, z5, z6⟩ := hc
    exact ⟨a, B, H', cls, d, z1, fl, z2, ub, z3, z4, allBare_setGen z5 rfl, z6⟩
end
end K39
/-! Sb -/
set_option maxHeartbeats 4000000
/-! book[key] within the layer -/
namespace K39
open PySem PySem.Spec PyProof.Rows L2

/-- o[i] of an own class -/
def tSub (C : Addr) (sp : Sp) (E : XK) (ta ti : TE) : TE := fun σ H Q => ta σ H fun x H1 => ti σ H1 fun y H2 => ∃ a dx fs, x = .ref a ∧ H2 a = some (.ins C dx fs) ∧ sp [.ref a, y] H2 Q E
section
variable {X : Cx} {CX : CXT} {k : Nat} {C f : Addr} {fd : FuncData} {ps : List Str} {sp : Sp} {E : XK} {o i : Expr} {pos : Pos} {ta ti : TE}
theorem pe_sub (g : PySem.W.findIn X.K (.ref C) "__getitem__" = some (some (.ref f))) (iG : PySem.W.isFn X.K (.ref f) = true) (nG : PySem.W.fnIn X.K f = true) (ho : PE X o ta) (hi : PE X i ti)
    (F : FnOk X.prog X.w X.K X.mg X.base CX k f fd ps sp) (hr : Room (k + 1) X.A) (hb : Binds X.K fd ps []) (hx : Passes CX X E)
    (hsl : ∀ x iv, subscripted i true (.ref x) iv = runValue (.builtin "lifetime.subscript" ⟨[.ref x, iv], []⟩)) :
    PE X (.Subscript o i pos) (tSub C sp E ta ti) := by
  refine ⟨fun pins s σ H Q I h => ?_⟩
  refine Subscript_ (thn (ho.run pins s σ H _ I h) fun u s1 ⟨x, H1, I1, rx, q1⟩ => thn (hi.run pins s1 σ H1 _ I1 q1) fun iv s2 ⟨y, H2, I2, ry, a, dx, fs, ex, ea, q2⟩ => ?_)
  subst ex
  obtain rfl : u = Value.ref a := rx
  obtain ⟨mA, O, _, _, _, _⟩ := ins_get I2.hok ea
  obtain ⟨od, J, _⟩ := O.look
  obtain ⟨m, hn, _⟩ := I2.loc
  refine PySem.W.sub_K (K := X.K) (h₀ := X.base) (L := X.env.locals) (m := m) (f := f) ⟨hn, I2.bk, Nat.le_trans I2.ok.bsz I2.ok.above⟩ I2.ok.mod.kin J g nG iG ?_ (hsl a iv)
  have hl : ([Value.ref a, iv] ++ []).length = ps.length := by
    rw [← F.len _ _ _ _ q2]
    rfl
  refine wpAny_call (codeAny_mono (F.run X.A.in1 X.stack s2 H2 ⟨[.ref a, iv], []⟩ [.ref a, iv] [.ref a, y] Q E hr.in1 I2.env0.in1 (hb _ [.ref a, iv] I2.kIn hl) (.cons rfl (.cons ry .nil)) q2) fun r s' hq => ?_)
  cases r with
  | error er => exact hx pins σ H2 s2 er s' I2 hq
  | ok fl =>
    cases fl with
    | ret u => exact I2.after hq
    | next => exact False.elim hq
    | brk => exact False.elim hq
    | cont => exact False.elim hq
end

/-- there is no such item -/
def Miss (K : PySem.W.Frag) (H : Hp) (kvs : List (Key × V)) (v : V) : Prop := (∃ y, v = .str y ∧ valV kvs (.inr y) = none) ∨ ∃ T : String, (∀ H', Same H H' → TyX K H' v (.type T)) ∧ PySem.W.kitOne K (.type T) (.type "str") = some false
/-- book[key]'s promise: the item, or NoItem -/
def spGet (K : PySem.W.Frag) (C N : Addr) : Sp := fun vs H Q E => ∃ bk v dx di fs kvs, vs = [.ref bk, v] ∧ BookIs H C bk dx di fs kvs ∧
  ((∃ y it, v = .str y ∧ valV kvs (.inr y) = some (.ref it) ∧ Q (.ref it) H) ∨ (Miss K H kvs v ∧ ∀ d, H d = none → E (.ref N) (some d) (upd H d (.xd [(("key" : Str), v)]))))
theorem Miss.keep {K : PySem.W.Frag} {H H' : Hp} {kvs : List (Key × V)} {v : V} (m : Miss K H kvs v) (sm : Same H H') : Miss K H' kvs v :=
  m.imp id fun ⟨T, h, k⟩ => ⟨T, fun H2 s2 => h H2 (sm.trans s2), k⟩
section
variable {P : Program} {w : World} {K : PySem.W.Frag} {mg : Str → Option Value} {base : Heap}
theorem scGet : FnScope ["self", "key"] ["self", "key"] (defScope sBookGet) := ⟨rfl, rfl, rfl, by decide +kernel, rfl, by decide +kernel, by decide +kernel⟩
theorem ok_get {C fG fH N fN : Addr} {fd : FuncData} (B : Bl mg) (T : BkT K mg C fG fH) (TN : NiTxt P K mg N fN) (F : FnP K "__getitem__" "Book.__getitem__" sBookGet fG fd) :
    FnOk P w K mg base (L2.CX P w) 2 fG fd ["self", "key"] (spGet K C N) := by
  refine FunD.ok F scGet (fun vs H Q E h => by obtain ⟨bk, v, dx, di, fs, kvs, rfl, _⟩ := h; rfl) fun cdv A outer s H vs Q E hr h => ?_
  have tk : Takes (cxOf (L2.CX P w) P w K mg base ["self", "key"] "Book.__getitem__" (defScope sBookGet) fG cdv A outer s H E) (fun cls d _ H => E cls d H) := takes_of rfl rfl rfl rfl
  have hu : (cxOf (L2.CX P w) P w K mg base ["self", "key"] "Book.__getitem__" (defScope sBookGet) fG cdv A outer s H E).A.units + 1 < cLine := by
    have := hr.un
    show (A.deeper _).units + 1 < cLine
    omega
  refine ⟨_, pss_cons (ps_if (PW.pt (pw_or (pt_not (pt_val (pe_isi B (pv 1) B.str bS))) (pw_or1 (pt_cmp (pc_dnotin hu (pv 1) (pe_fld (pv 0) rfl))))))
      (pss_one (ps_raiseNi rfl TN hr tk (pa_cons (pv 1) pa_nil))) pss_nil)
    (pss_one (ps_ret (pe_dget hu (pe_fld (pv 0) rfl) (pv 1) (fun _ _ => rfl)))), ?_⟩
  obtain ⟨bk, v, dx, di, fs, kvs, rfl, ⟨ob, at_, dk⟩, h⟩ := h
  rcases h with ⟨y, it, rfl, hv, q⟩ | ⟨⟨y, rfl, hv⟩ | ⟨Ty, hT, hk⟩, q⟩
  · refine ⟨_, rfl, _, _, _, _, true, rfl, .ty "str", .base (.str _), kit_s', true, rfl, ?_⟩
    refine ⟨_, rfl, _, rfl, bk, C, dx, fs, _, rfl, ob, T.cl, T.nI, at_, di, _, rfl, .k (k := .inr y) dk, !(valV kvs (.inr y)).isSome, rfl, ?_⟩
    rw [hv]
    refine ⟨_, rfl, bk, C, dx, fs, _, rfl, ob, T.cl, T.nI, at_, _, rfl, di, .ref it, rfl, ?_, q⟩
    have := DGet.k (H := H) (a := di) (k := .inr y) dk
    rw [hv] at this
    exact this
  · refine ⟨_, rfl, _, _, _, _, true, rfl, .ty "str", .base (.str _), kit_s', true, rfl, ?_⟩
    refine ⟨_, rfl, _, rfl, bk, C, dx, fs, _, rfl, ob, T.cl, T.nI, at_, di, _, rfl, .k (k := .inr y) dk, !(valV kvs (.inr y)).isSome, rfl, ?_⟩
    rw [hv]
    exact ⟨_, rfl, _, rfl, fun d hd => q d hd⟩
  · refine ⟨_, rfl, _, _, _, _, false, rfl, .ty "str", hT H (Same.refl H), hk, false, rfl, ?_⟩
    exact ⟨_, rfl, _, rfl, fun d hd => q d hd⟩
theorem getBinds {f : Addr} {fd : FuncData} (F : FnP K "__getitem__" "Book.__getitem__" sBookGet f fd) : Binds K fd ["self", "key"] [] := by
  obtain ⟨oc, od, dV, kV, doc, pm, an, cdv, ct, osl, rfl, lk, hcd, hdv, _⟩ := F.ex
  have e0 : dV = .none := dfl_none hdv
  subst e0
  exact .all fun us hl => match us, hl with | [_, _], _ => rfl
theorem scChain : GScope ["book", "key", "seen", "here"] ["book", "key"] (defScope sChain) := ⟨rfl, rfl, rfl, by decide +kernel, rfl, by decide +kernel, by decide +kernel⟩
end
section
variable {X : Cx} {pins : List (Addr × Obj)} {σ : L2.St} {H : Hp} {s : Shared}
/-- chain(x, y), and there is no such item -/
theorem mk_exprR {f bk C fG fH N fN : Addr} {i j : Nat} {x y : Str} {v : V} {dx di : Addr} {fs : List (Str × V)} {kvs : List (Key × V)} {p p1 p2 pos : Pos} {E : XK} {Q : Value → Shared → Prop} {E' : Value → Shared → Prop} (G : GenT X f) (B : Bl X.mg) (T : BkT X.K X.mg C fG fH) (TN : NiTxt X.prog X.K X.mg N fN)
    (I : Inv X pins σ H s) (hr : Room 4 X.A) (hg : Gl X "chain") (hx : X.N[i]? = some x) (vx : Vis X.env.scope x) (hy : X.N[j]? = some y) (vy : Vis X.env.scope y)
    (ex : σ[i]? = some (some (.ref bk))) (ey : σ[j]? = some (some v)) (ob : BookIs H C bk dx di fs kvs) (hm : Miss X.K H kvs v) (hE : ∀ H1 d, Same H H1 → H1 d = none → E (.ref N) (some d) (upd H1 d (.xd [(("key" : Str), v)])))
    (hQ : ∀ u s', Inv X pins σ H s' → GMadeR X.prog X.w 4 X.stack H s E u s' → Q u s')
    (hdx : (x == ("__debug__" : Str)) = false := by decide) (hcx : (x == ("__classdict__" : Str)) = false := by decide) (hdy : (y == ("__debug__" : Str)) = false := by decide) (hcy : (y == ("__classdict__" : Str)) = false := by decide) :
    wpAny (model X.prog X.w) X.A (eval (.Call (.Name "chain" p) [.Name x p1, .Name y p2] [] pos) X.env) Q E' s := by
  obtain ⟨fd, F⟩ := G.fn
  obtain ⟨fdG, FG⟩ := T.fdG
  obtain ⟨oc, od, dV, kV, doc, pm, an, cdv, ct, osl, rfl, lk, hcd, hdv, _⟩ := F.ex
  have e0 : dV = .none := dfl_none hdv
  subst e0
  refine wpAny_Call_Name_kw (ld_glob I hg G.mg ?_)
  refine PySem.W.callWith_K (h₀ := X.base) (first := []) I.ok.mod.kin G.kp ?_ (by rfl) (by rfl)
  show wpAny _ _ (spliced ((false, eval (.Name x p1) X.env) :: (false, eval (.Name y p2) X.env) :: [])) _ _ s
  refine Calls.spliced_cons (var_st I hx vx ex (fun u ru => ?_) hdx hcx)
  have eu : u = Value.ref bk := ru
  subst eu
  refine Calls.spliced_cons (var_st I hy vy ey (fun u ru => ?_) hdy hcy)
  refine Calls.spliced_nil ⟨I.kIn, ?_⟩
  refine wpAny_call (codeAny_mono (gfnr_of (P := X.prog) (w := X.w) (mg := X.mg) (base := X.base) (k := 3) (E := E) (us := [.ref bk, u]) (vs := [.ref bk, v]) (outer := X.stack) (H := H) (args := ⟨[.ref bk, u], []⟩) (ps := ["book", "key"]) (st := cSt1) (rest := (defBody sChain).tail) lk hcd scChain rfl (fun A pn hra => ?_) hr I.env0 (.of_eq (by rfl)) (.cons rfl (.cons ru .nil))) fun r s' hq => ?_)
  · have nd : (["book", "key", "seen", "here"] : List Str).Nodup := by decide +kernel
    refine ⟨_, ps_par (i := 2) (j := 3) rfl nd rfl rfl (by decide) rfl rfl (pa_cons (pe_lst pa_nil) (pa_cons (pe_ix ix_tup (pe_sub T.gG T.iG T.nG (pv 0) (pv 1) (ok_get B T TN FG) hra (getBinds FG) (passes_call takes_gcx fun _ _ _ _ h => h) (fun _ _ => by with_unfolding_all rfl)) pe_int (fun _ _ => rfl)) pa_nil)) rfl (by rfl), ?_⟩
    refine ⟨Nat.zero_le _, fun q hq => ?_⟩
    have s0 := same_new (o := .lst []) hq
    refine ⟨_, rfl, _, rfl, bk, dx, fs, rfl, s0 _ _ ob.ob, bk, v, dx, di, fs, kvs, rfl, ⟨s0 _ _ ob.ob, ob.at_, s0 _ _ ob.dk⟩, .inr ⟨hm.keep s0, fun d hd => hE _ d s0 hd⟩⟩
  · cases r with
    | error e => exact hq.elim
    | ok fl =>
      cases fl with
      | ret u => exact hQ u s' (hq.inv I) hq
      | next => exact hq.elim
      | brk => exact hq.elim
      | cont => exact hq.elim
end
end K39
/-! Lc -/
set_option maxHeartbeats 4000000
/-! list(chain(x, y)) -/
namespace K39
open PySem PySem.Spec PyProof.Rows L2 GenW

section
variable {X : Cx} {pins : List (Addr × Obj)} {σ : L2.St} {H : Hp} {s : Shared}
/-- a list of ours is tracked from now on -/
theorem inv_track {S : Addr} {acc : Array Value} {c : Nat} {out : List V} (I : Inv X pins σ H s) (fS : FpOk X pins H S) (e : s.heap.get? S = some (lO acc c)) (r : Vals out acc.toList) (hlen : out.length ≤ sizeLine) : Inv X pins σ (upd H S (.lst out)) s := by
  obtain ⟨hS, f1, _, f3, f4, f5⟩ := fS
  refine I.call' (ch := [S]) rfl ⟨fun _ _ e _ _ _ => e, fun b o e _ _ _ => ⟨o.slots, e⟩, fun b o e n hx => ?_, fun b o e _ => ⟨o, e⟩, fun b xs q => ?_, fun b o u q => ?_, fun b ps q => ?_⟩ (fun b u q => ?_) I.bare fun b hb => ?_
  · rw [upd_ne (fun z => hx (by rw [z]; exact List.mem_cons_self))]; exact n
  · rw [upd_ne (ne_of_none q hS)]; exact q
  · rw [upd_ne (ne_of_none q hS)]; exact q
  · exact ⟨#[], by rw [upd_ne (ne_of_none q hS), q]; simp⟩
  · by_cases hb : b = S
    · subst hb
      rw [upd_same] at q
      cases q
      exact ⟨hlen, acc.toList, c, r, by rw [e]⟩
    · rw [upd_ne hb] at q
      exact (I.hok b u q).stay (fun _ _ _ z => z) (fun d z => by rw [upd_ne (ne_of_none z hS)]; exact z) fun d xs z => by rw [upd_ne (ne_of_none z hS)]; exact z
  · rw [List.mem_singleton.mp hb]; exact ⟨f3, f1, f4, f5⟩
/-- a cell of ours is set -/
theorem inv_cell {S : Addr} {o : Obj} {f : Obj → Obj} (I : Inv X pins σ H s) (fS : FpOk X pins H S) : Inv X pins σ H { s with heap := s.heap.update S f } :=
  inv_moved (g := 0) (own := [S]) I ⟨fun b o n e => (Heap.get?_update_other _ _ (fun z => n (by rw [z]; exact List.mem_cons_self))).trans e, by show _ ≤ (s.heap.update S f).objs.size; rw [(Heap.SameBut.update ..).1]; exact Nat.le_refl _, rfl, fun _ _ => rfl, id⟩ fun b hb => by rw [List.mem_singleton.mp hb]; exact fS
/-- the generator's list is being filled: S, rem is left -/
def Fil (X : Cx) (pins : List (Addr × Obj)) (σ : L2.St) (H : Hp) (C bk L : Addr) (lk : Lk) (full : List Str) (a : Addr) (g : Nat) (A0 : Around) (S : Addr) (m : Nat) (acc : Array Value) (s : Shared) : Prop :=
  ∃ fp rem done, m = rem.length ∧ full = done ++ rem ∧ Inv X pins σ H s ∧ Slp X.prog X.w X.K X.mg X.base C bk L lk full a g A0 fp rem s ∧ (∀ b ∈ fp, FpOk X pins H b) ∧ S ∉ fp ∧ (∃ c, s.heap.get? S = some (lO acc c)) ∧ Vals (done.map V.str) acc.toList
theorem FpOk.keep {H' : Hp} {b : Addr} (h : FpOk X pins H b) (n : H' b = none) : FpOk X pins H' b := ⟨n, h.2⟩
/-- list(it), it a generator chain that has not begun -/
theorem list_chain {C fG fH bk L : Addr} {lk : Lk} {full : List Str} {y : Str} {a : Addr} {g : Nat} {k : Nat} {s0 : Shared} {Q : Value → Shared → Prop} {E : Value → Shared → Prop} (I : Inv X pins σ H s) (T : BkT X.K X.mg C fG fH) (B : BookF H C bk lk) (hr : Room k X.A) (hlen : full.length < 1000000)
    (M : GMd X pins H bk (.str y) a L g s0 s) (hy : (lk y).isSome = true) (hc : Ch lk [] (some y) full)
    (hQ : ∀ S s', Inv X pins σ (upd H S (.lst (full.map V.str))) s' → H S = none → Q (.ref S) s') : wpAny (model X.prog X.w) X.A (call (.type "list") [.ref a]) Q E s := by
  have S0 : Slp X.prog X.w X.K X.mg X.base C bk L lk full a g X.A.in1.in1 [a, L] full s := M.slp.slp M.ne M.ab hc hy
  obtain ⟨oa, nm, qn, hoa, hca, _⟩ := id S0.gen
  have lta : a < s.heap.objs.size := Heap.lt_size hoa
  have ltL : L < s.heap.objs.size := by
    obtain ⟨o, ho, _⟩ := S0.obj L (by simp)
    exact Heap.lt_size ho
  have fS : FpOk X pins H s.heap.objs.size := I.fpOk (Nat.le_refl _) (I.hok.fresh (Nat.le_refl _))
  have hu : X.A.in1.in1.units + 129 < cLine := by
    have := hr.un
    show X.A.units + 1 + 1 + 129 < cLine
    omega
  refine list_callJ (T := "generator") (J := Fil X pins σ H C bk L lk full a g X.A.in1.in1 s.heap.objs.size) ⟨oa, hoa, hca⟩ PySem.F.gen_no_len PySem.F.gen_no_hint (by decide) (by decide)
    (fun A Q E h' hk q => wpAny_pyIter_gen (S0.gen.keeps hk) q) (fun h' c hk hS hz => ⟨_, [a, L], full, [], rfl, rfl, I.kept (t' := s.toks) hk, S0.keep (fun b _ o e => hk b o e) rfl, fun b hb => ?_, fun hm => ?_, ⟨c, hS⟩, .nil⟩) fun m acc s' J => ?_
  · rcases List.mem_cons.mp hb with rfl | hb
    · exact M.fa
    · rw [List.mem_singleton.mp hb]; exact M.fL
  · rcases List.mem_cons.mp hm with e | hm
    · exact absurd lta (by rw [e]; exact Nat.lt_irrefl _)
    · have e := List.mem_singleton.mp hm
      exact absurd ltL (by rw [e]; exact Nat.lt_irrefl _)
  obtain ⟨fp, rem, done, rfl, hf, J, Sl, hfp, hnS, ⟨c, hS⟩, hv⟩ := J
  have hnSH : H s.heap.objs.size = none := I.hok.fresh (Nat.le_refl _)
  refine turnG J T B hr.hd (by have := hr.dp; show X.A.depth + 1 < _; omega) hu hlen Sl hfp (fun s1 hrem J1 V => ?_) fun x ys t fp' s1 hrem J1 V Sl1 hfp1 hnew => ?_
  · subst hrem
    rw [List.append_nil] at hf
    subst hf
    have hS1 := V.keep _ _ hnS hS
    exact hQ _ _ (inv_track J1 fS hS1 hv (by rw [List.length_map]; exact Nat.le_trans (Nat.le_of_lt hlen) (by decide))) hnSH
  · subst hrem
    have hS1 := V.keep _ _ hnS hS
    have hnS1 : s.heap.objs.size ∉ fp' := fun hm => by
      rcases hnew _ hm with h | h
      · exact hnS h
      · exact absurd (Nat.lt_of_lt_of_le (Heap.lt_size hS) h) (Nat.lt_irrefl _)
    have hsz : acc.size = done.length := by
      have e1 := hv.length
      rw [List.length_map] at e1
      have e2 : acc.toList.length = acc.size := by simp
      omega
    have hl2 : done.length + (ys.length + 1) = full.length := by rw [hf, List.length_append, List.length_cons]
    refine ⟨c, hS1, ?_, ys.length, by simp, fp', ys, done ++ [x], rfl, by rw [hf, List.append_assoc]; rfl, inv_cell (o := lO acc c) J1 fS, Sl1.keep (fun b hb o e => (Heap.get?_update_other _ _ (fun z => hnS1 (by rw [z]; exact hb))).trans e) rfl, hfp1, hnS1, ?_, ?_⟩
    · rw [hsz]
      exact Nat.lt_of_lt_of_le (show done.length < 1000000 by omega) (by decide)
    · exact ⟨_, Heap.get?_update_self _ hS1 rfl⟩
    · rw [List.map_append, Array.toList_push]
      exact hv.append (.cons ⟨t, rfl⟩ .nil)
end
end K39
/-! Ld -/
set_option maxHeartbeats 4000000
/-! list(chain(x, y)): the expressions -/
namespace K39
open PySem PySem.Spec PyProof.Rows L2 GenW

/-- the chain of y at the book bk -/
def ChAt (H : Hp) (C bk : Addr) (y : Str) (full : List Str) : Prop := ∃ lk, BookF H C bk lk ∧ (lk y).isSome = true ∧ Ch lk [] (some y) full ∧ full.length < 1000000
/-- no item at the book bk; the error that goes out -/
def NoAt (K : PySem.W.Frag) (H : Hp) (C N bk : Addr) (v : V) (E : XK) : Prop := ∃ dx di fs kvs, BookIs H C bk dx di fs kvs ∧ Miss K H kvs v ∧ ∀ H1 d, Same H H1 → H1 d = none → E (.ref N) (some d) (upd H1 d (.xd [(("key" : Str), v)]))
def tListCh (C : Addr) (i j : Nat) : TE := fun σ H Q => ∃ bk y full, σ[i]? = some (some (.ref bk)) ∧ σ[j]? = some (some (.str y)) ∧ ChAt H C bk y full ∧ ∀ p, H p = none → Q (.ref p) (upd H p (.lst (full.map V.str)))
def tListChR (K : PySem.W.Frag) (C N : Addr) (E : XK) (i j : Nat) : TE := fun σ H _ => ∃ bk v, σ[i]? = some (some (.ref bk)) ∧ σ[j]? = some (some v) ∧ NoAt K H C N bk v E
section
variable {X : Cx}
theorem pe_listCh {f C fG fH : Addr} {i j k : Nat} {x y : Str} {pl p p1 p2 pos pos2 : Pos} (G : GenT X f) (B : Bl X.mg) (T : BkT X.K X.mg C fG fH) (hr : Room k X.A) (hx : X.N[i]? = some x) (vx : Vis X.env.scope x) (hy : X.N[j]? = some y) (vy : Vis X.env.scope y)
    (hgl : Gl X "list" := by rfl) (hg : Gl X "chain" := by rfl) (hdx : (x == ("__debug__" : Str)) = false := by decide) (hcx : (x == ("__classdict__" : Str)) = false := by decide) (hdy : (y == ("__debug__" : Str)) = false := by decide) (hcy : (y == ("__classdict__" : Str)) = false := by decide) :
    PE X (.Call (.Name "list" pl) [.Call (.Name "chain" p) [.Name x p1, .Name y p2] [] pos] [] pos2) (tListCh C i j) := by
  refine ⟨fun pins s σ H Q I ⟨bk, yv, full, ex, ey, ⟨lk, hB, hs, hc, hl⟩, q⟩ => ?_⟩
  refine wpAny_Call_Name_kw (ld_blt I hgl B.list (u := .type "list") (by decide +kernel) ?_ (by decide) (by decide))
  refine PyProof.Rows.callWith_type1 ?_ rfl rfl
  show wpAny _ _ (spliced ((false, eval (.Call (.Name "chain" p) [.Name x p1, .Name y p2] [] pos) X.env) :: [])) _ _ s
  refine Calls.spliced_cons (mk_expr G I (by have := hr.dp; omega) hg hx vx hy vy ex ey (fun a L g s1 I1 M => ?_) hdx hcx hdy hcy)
  refine Calls.spliced_nil ?_
  refine list_chain I1 T hB hr hl M hs hc fun S s' I' hS => ⟨.ref S, _, I', rfl, q S hS⟩
theorem pe_listChR {f C fG fH N fN : Addr} {i j k : Nat} {x y : Str} {pl p p1 p2 pos pos2 : Pos} {E : XK} (G : GenT X f) (B : Bl X.mg) (T : BkT X.K X.mg C fG fH) (TN : NiTxt X.prog X.K X.mg N fN) (hr : Room 6 X.A) (hE : Passes (L2.CX X.prog X.w) X E) (hns : NoStop X.K E) (hx : X.N[i]? = some x) (vx : Vis X.env.scope x) (hy : X.N[j]? = some y) (vy : Vis X.env.scope y)
    (hgl : Gl X "list" := by rfl) (hg : Gl X "chain" := by rfl) (hdx : (x == ("__debug__" : Str)) = false := by decide) (hcx : (x == ("__classdict__" : Str)) = false := by decide) (hdy : (y == ("__debug__" : Str)) = false := by decide) (hcy : (y == ("__classdict__" : Str)) = false := by decide) :
    PE X (.Call (.Name "list" pl) [.Call (.Name "chain" p) [.Name x p1, .Name y p2] [] pos] [] pos2) (tListChR X.K C N E i j) := by
  refine ⟨fun pins s σ H Q I ⟨bk, v, ex, ey, dx, di, fs, kvs, ob, hm, q⟩ => ?_⟩
  refine wpAny_Call_Name_kw (ld_blt I hgl B.list (u := .type "list") (by decide +kernel) ?_ (by decide) (by decide))
  refine PyProof.Rows.callWith_type1 ?_ rfl rfl
  show wpAny _ _ (spliced ((false, eval (.Call (.Name "chain" p) [.Name x p1, .Name y p2] [] pos) X.env) :: [])) _ _ s
  refine Calls.spliced_cons (mk_exprR G B T TN I (hr.mono (by decide)) hg hx vx hy vy ex ey ob hm q (fun u s1 I1 M => ?_) hdx hcx hdy hcy)
  refine Calls.spliced_nil ?_
  obtain ⟨a, g, c, eu, h1, h2, hgn, hgs, os, hb, hl, hk, wake⟩ := id M
  subst eu
  obtain ⟨oa, nm, qn, hoa, hca, _⟩ := id hgn
  refine list_callJ (T := "generator") (J := fun _ _ s2 => (∀ b o, s1.heap.get? b = some o → s2.heap.get? b = some o) ∧ s2.os = s1.os ∧ s2.gens = s1.gens) ⟨oa, hoa, hca⟩ PySem.F.gen_no_len PySem.F.gen_no_hint (by decide) (by decide)
    (fun A Q E h' hk q => wpAny_pyIter_gen (hgn.keeps hk) q) (fun h' c hk hS hz => ⟨0, hk, rfl, rfl⟩) fun m acc s2 ⟨k1, k2, k3⟩ => ?_
  refine turnR (k := 4) I M hE hns ⟨hr.hd, ?_, ?_⟩ I.ok.frames k1 k2 k3
  · have := hr.dp
    show X.A.depth + 3 * 5 + 5 < _
    omega
  · have := hr.un
    show X.A.units + 1 + 1 + 16 * 5 + 200 < _
    omega
end
end K39
/-! Zq -/
set_option maxHeartbeats 4000000
/-! zip of two iterators, one turn -/
namespace K39
open PySem PySem.Spec PyProof.Rows L2

abbrev zO (f0 f1 : Value) (TI TO : Addr) : Obj := { cls := .type "zip", dict := none, data := .fields #[f0, f1, .bool false, .ref TI, .ref TO], slots := #[] }
abbrev pO (x y : Value) : Obj := { cls := .type "tuple", data := .seq #[x, y] }
section
variable {P : Program} {w : World} {A : Around} {E : Value → Shared → Prop} {s : Shared}
theorem setF {z TI TO : Addr} {f0 f1 v : Value} {i : Nat} {Q : Unit → Shared → Prop} (hz : s.heap.get? z = some (zO f0 f1 TI TO)) (hi : i < 5)
    (h : ∀ h', h'.get? z = some { cls := .type "zip", dict := none, data := .fields ((#[f0, f1, .bool false, .ref TI, .ref TO] : Array Value).setIfInBounds i v), slots := #[] } → Heap.SameBut z s.heap h' → Q () { s with heap := h' }) :
    wpAny (model P w) A (setField (.ref z) i v) Q E s :=
  wpAny_setField_rec hz (by simpa using hi) fun h' h1 h2 => h h' h1 h2
theorem isStop_keep {e : Value} {z : Addr} {h h' : Heap} {o : Obj} (i : IsStop e h) (hz : h.get? z = some o) (hc : o.cls = .type "zip") (k : ∀ b o, b ≠ z → h.get? b = some o → h'.get? b = some o) : IsStop e h' := by
  obtain ⟨a, o', rfl, ho, hc'⟩ := i
  refine ⟨a, o', rfl, k a o' (fun q => ?_) ho, hc'⟩
  subst q
  rw [hz] at ho
  cases ho
  rw [hc] at hc'
  injection hc' with hc'
  exact absurd hc' (by decide)
/-- the first turn -/
theorem zip_first {z TI TO a1 a2 : Addr} {p q : Value} {Q : Option Value → Shared → Prop} (hz : s.heap.get? z = some (zO .none (.bool false) TI TO)) (hTI : s.heap.get? TI = some (pO (.ref a1) (.ref a2))) (hTO : s.heap.get? TO = some (pO p q)) (nTIz : TI ≠ z) (nTOz : TO ≠ z)
    (n1 : ∀ h', h'.get? z = some (zO .ellipsis (.bool false) TI TO) → Heap.SameBut z s.heap h' → NextOk P w A.in1 a1 (fun r s1 => s1.heap.get? z = some (zO .ellipsis (.bool false) TI TO) ∧ match r with
      | none => ∀ h'', h''.get? z = some (zO .none (.bool false) TI TO) → Heap.SameBut z s1.heap h'' → Q none { s1 with heap := h'' }
      | some x => s1.heap.get? TO = some (pO p q) ∧ ∀ h2, h2.get? TO = some (pO x q) → Heap.SameBut TO s1.heap h2 → NextOk P w A.in1 a2 (fun r s2 => s2.heap.get? z = some (zO .ellipsis (.bool false) TI TO) ∧ match r with
        | none => ∀ h'', h''.get? z = some (zO .none (.bool false) TI TO) → Heap.SameBut z s2.heap h'' → Q none { s2 with heap := h'' }
        | some y => s2.heap.get? TO = some (pO x q) ∧ ∀ h'', h''.get? z = some (zO (rawInt s2.heap.objs.size) (.bool false) TI TO) → h''.get? TO = some (pO x y) → h''.get? s2.heap.objs.size = some (pO x y) → h''.objs.size = s2.heap.objs.size + 1 →
            (∀ c o, c ≠ z → c ≠ TO → s2.heap.get? c = some o → h''.get? c = some o) → Q (some (.ref s2.heap.objs.size)) { s2 with heap := h'' }) (fun _ _ => False) { s1 with heap := h2 }) (fun _ _ => False) { s with heap := h' }) :
    NextOk P w A z Q E s := by
  have hT : s.TypeIs (.ref z) "zip" := ⟨_, hz, rfl⟩
  unfold NextOk
  refine wpAny_callSpecial?_slot (name := Str.ofString "__next__") hT PySem.F.slot_zip_next (wpAny_call_entry PySem.F.slot_zip_next hT PySem.F.entry_zip_next ?_ (PySem.F.args_zip_next_1 _))
  show wpAny _ _ (field (.ref z) 2 >>= _) _ _ _
  refine wpAny_bind (wpAny_field hz rfl (x := .bool false) rfl ?_)
  show wpAny _ _ (field (.ref z) 3 >>= _) _ _ _
  refine wpAny_bind (wpAny_field hz rfl (x := .ref TI) rfl ?_)
  refine wpAny_bind (wpAny_seqItems hTI rfl ?_)
  show wpAny _ _ (Builtin.SmallTypes.ownedTupleIsFree (.ref z) >>= _) _ _ _
  refine wpAny_bind ?_
  unfold Builtin.SmallTypes.ownedTupleIsFree
  refine wpAny_bind (wpAny_field hz rfl (x := .none) rfl (wpAny_pure ?_))
  simp only [if_true]
  refine wpAny_bind (wpAny_rule ?_)
  refine wpAny_bind (wpAny_field hz rfl (x := .ref TO) rfl ?_)
  refine wpAny_bind (setF hz (by decide) fun h₁ hz₁ hs₁ => ?_)
  replace hz₁ : h₁.get? z = some (zO .ellipsis (.bool false) TI TO) := hz₁
  refine wpAny_bind ?_
  simp only [List.zipIdx_cons, List.zipIdx_nil, List.forIn_cons, List.forIn_nil]
  have stopped : ∀ {e : Value} {s' : Shared}, ((IsStop e s'.heap ∧ (s'.heap.get? z = some (zO .ellipsis (.bool false) TI TO) ∧ ∀ h'', h''.get? z = some (zO .none (.bool false) TI TO) → Heap.SameBut z s'.heap h'' → Q none { s' with heap := h'' })) ∨ (NotStop (model P w) e s'.heap ∧ False)) →
      wpAny (model P w) A.in1 (setField (.ref z) 0 .none) (fun _ s'' => (IsStop e s''.heap ∧ Q none s'') ∨ (NotStop (model P w) e s''.heap ∧ E e s'')) (fun e s' => (IsStop e s'.heap ∧ Q none s') ∨ (NotStop (model P w) e s'.heap ∧ E e s')) s' := by
    intro e s' h
    rcases h with ⟨h1, h2, h3⟩ | ⟨_, h⟩
    · refine setF h2 (by decide) fun h' hz' hs' => .inl ⟨isStop_keep h1 h2 rfl fun b o n e => hs'.extBut _ _ n e, h3 h' hz' hs'⟩
    · exact h.elim
  refine wpAny_bind (wpAny_bind (wpAny_onRaise ?_))
  show wpAny _ _ (Builtin.SmallTypes.nextOf (.ref a1) >>= _) _ _ _
  refine wpAny_bind (wpAny_mono (n1 h₁ hz₁ hs₁).nextOf (fun x s1 hx => wpAny_pure ?_) fun e s1 he => ?_)
  · obtain ⟨hz2, hTO1, n2⟩ := hx
    refine wpAny_bind (wpAny_seqItems hTO1 rfl ?_)
    refine wpAny_bind (wpAny_updateSeq_pair hTO1 fun h₃ hTO₃ hs₃ => ?_)
    replace hTO₃ : h₃.get? TO = some (pO x q) := hTO₃
    refine wpAny_bind (wpAny_letGo (wpAny_pure ?_))
    refine wpAny_bind (wpAny_bind (wpAny_onRaise ?_))
    show wpAny _ _ (Builtin.SmallTypes.nextOf (.ref a2) >>= _) _ _ _
    refine wpAny_bind (wpAny_mono (n2 h₃ hTO₃ hs₃).nextOf (fun y s2 hy => wpAny_pure ?_) fun e s2 he => ?_)
    · obtain ⟨hz3, hTO2, fin⟩ := hy
      refine wpAny_bind (wpAny_seqItems hTO2 rfl ?_)
      refine wpAny_bind (wpAny_updateSeq_pair hTO2 fun h₅ hTO₅ hs₅ => ?_)
      replace hTO₅ : h₅.get? TO = some (pO x y) := hTO₅
      refine wpAny_bind (wpAny_letGo (wpAny_pure (wpAny_pure ?_)))
      refine wpAny_bind (wpAny_seqItems hTO₅ rfl ?_)
      refine wpAny_bind (wpAny_newTuple ?_)
      have hz₅ : h₅.get? z = some (zO .ellipsis (.bool false) TI TO) := hs₅.extBut _ _ (Ne.symm nTOz) hz3
      have hzlt : z < h₅.objs.size := Heap.lt_size hz₅
      show wpAny _ _ (Builtin.SmallTypes.ownedTupleHandOut (.ref z) (.ref h₅.objs.size) >>= _) _ _ _
      refine wpAny_bind ?_
      unfold Builtin.SmallTypes.ownedTupleHandOut
      have hz₆ : (h₅.push (pO x y)).get? z = some (zO .ellipsis (.bool false) TI TO) := Heap.get?_push_of_some _ hz₅
      refine wpAny_bind (setF hz₆ (by decide) fun h₇ hz₇ hs₇ => ?_)
      replace hz₇ : h₇.get? z = some (zO (rawInt h₅.objs.size) (.bool false) TI TO) := hz₇
      refine setF hz₇ (by decide) fun h₈ hz₈ hs₈ => ?_
      replace hz₈ : h₈.get? z = some (zO (rawInt h₅.objs.size) (.bool false) TI TO) := hz₈
      have up : ∀ c o, c ≠ z → h₅.get? c = some o → h₈.get? c = some o := fun c o c1 e => hs₈.extBut _ _ c1 (hs₇.extBut _ _ c1 (Heap.get?_push_of_some _ e))
      have hT₈ : h₈.get? h₅.objs.size = some (pO x y) := hs₈.extBut _ _ (Nat.ne_of_gt hzlt) (hs₇.extBut _ _ (Nat.ne_of_gt hzlt) (Heap.get?_push_size _ rfl))
      have hz8 : h₈.objs.size = h₅.objs.size + 1 := by rw [hs₈.1, hs₇.1, Heap.size_push]
      have hsz : h₅.objs.size = s2.heap.objs.size := hs₅.1
      rw [hsz] at hz₈ hT₈ hz8
      refine wpAny_pure ⟨_, rfl, _, rfl, ?_⟩
      rw [hsz]
      exact fin h₈ hz₈ (up _ _ nTOz hTO₅) hT₈ hz8 fun c o c1 c2 e => up c o c1 (hs₅.extBut _ _ c2 e)
    · exact stopped he
  · exact stopped he
theorem zip_not_free {z TI TO T : Addr} {oT : Obj} {b : Bool} {Q : Bool → Shared → Prop} (hz : s.heap.get? z = some (zO (rawInt T) (.bool b) TI TO)) (hoT : s.heap.get? T = some oT)
    (h : ∀ h' : Heap, h'.get? z = some (zO (rawInt T) (.bool true) TI TO) → (∀ c o, c ≠ z → s.heap.get? c = some o → h'.get? c = some o) → h'.objs.size = s.heap.objs.size → Q false { s with heap := h' }) :
    wpAny (model P w) A (Builtin.SmallTypes.ownedTupleIsFree (.ref z)) Q E s := by
  unfold Builtin.SmallTypes.ownedTupleIsFree
  refine wpAny_bind (wpAny_field hz rfl (x := rawInt T) rfl ?_)
  show wpAny _ _ (loadIfAlive (T : Int).toNat >>= _) _ _ _
  rw [Int.toNat_natCast]
  refine wpAny_bind (PySem.W.kdx_alive hoT ?_)
  rw [if_neg (by simp)]
  refine wpAny_bind (wpAny_field hz rfl (x := .bool b) rfl ?_)
  cases b with
  | true => exact wpAny_pure (h s.heap hz (fun _ _ _ e => e) rfl)
  | false =>
    show wpAny _ _ (setField (.ref z) 1 (.bool true) >>= _) _ _ _
    refine wpAny_bind (setF hz (by decide) fun h' hz' hs' => wpAny_pure (h h' hz' (fun c o n e => hs'.extBut _ _ n e) hs'.1))
/-- a further turn: the tuple last handed out is still held -/
theorem zip_again {z TI TO a1 a2 T : Addr} {oT : Obj} {b : Bool} {Q : Option Value → Shared → Prop} (hz : s.heap.get? z = some (zO (rawInt T) (.bool b) TI TO)) (hTI : s.heap.get? TI = some (pO (.ref a1) (.ref a2))) (hoT : s.heap.get? T = some oT) (nTIz : TI ≠ z)
    (n1 : ∀ h' : Heap, h'.get? z = some (zO (rawInt T) (.bool true) TI TO) → (∀ c o, c ≠ z → s.heap.get? c = some o → h'.get? c = some o) → h'.objs.size = s.heap.objs.size → NextOk P w A.in1 a1 (fun r s1 => match r with
      | none => Q none s1
      | some x => NextOk P w A.in1 a2 (fun r s2 => match r with
        | none => Q none s2
        | some y => Q (some (.ref s2.heap.objs.size)) { s2 with heap := s2.heap.push (pO x y) }) (fun _ _ => False) s1) (fun _ _ => False) { s with heap := h' }) :
    NextOk P w A z Q E s := by
  have hT : s.TypeIs (.ref z) "zip" := ⟨_, hz, rfl⟩
  unfold NextOk
  refine wpAny_callSpecial?_slot (name := Str.ofString "__next__") hT PySem.F.slot_zip_next (wpAny_call_entry PySem.F.slot_zip_next hT PySem.F.entry_zip_next ?_ (PySem.F.args_zip_next_1 _))
  show wpAny _ _ (field (.ref z) 2 >>= _) _ _ _
  refine wpAny_bind (wpAny_field hz rfl (x := .bool false) rfl ?_)
  show wpAny _ _ (field (.ref z) 3 >>= _) _ _ _
  refine wpAny_bind (wpAny_field hz rfl (x := .ref TI) rfl ?_)
  refine wpAny_bind (wpAny_seqItems hTI rfl ?_)
  show wpAny _ _ (Builtin.SmallTypes.ownedTupleIsFree (.ref z) >>= _) _ _ _
  refine wpAny_bind (zip_not_free hz hoT fun h' hz' hk hsz => ?_)
  rw [if_neg (by simp)]
  refine wpAny_bind ?_
  simp only [List.forIn_toArray, List.forIn_cons, List.forIn_nil]
  have stopped : ∀ {e : Value} {s' : Shared}, ((IsStop e s'.heap ∧ Q none s') ∨ (NotStop (model P w) e s'.heap ∧ False)) → (IsStop e s'.heap ∧ Q none s') ∨ (NotStop (model P w) e s'.heap ∧ E e s') := fun h => h.imp id fun z => z.2.elim
  refine wpAny_bind (wpAny_bind (wpAny_holding ?_))
  show wpAny _ _ (Builtin.SmallTypes.nextOf (.ref a1) >>= _) _ _ _
  refine wpAny_bind (wpAny_mono (n1 h' hz' hk hsz).nextOf (fun x s1 hx => wpAny_pure ?_) fun e s1 he => stopped he)
  refine wpAny_pure ?_
  refine wpAny_bind (wpAny_bind (wpAny_holding ?_))
  show wpAny _ _ (Builtin.SmallTypes.nextOf (.ref a2) >>= _) _ _ _
  refine wpAny_bind (wpAny_mono (NextOk.nextOf hx) (fun y s2 hy => wpAny_pure ?_) fun e s2 he => stopped he)
  refine wpAny_pure (wpAny_pure ?_)
  show wpAny _ _ (newTuple [x, y] >>= _) _ _ _
  refine wpAny_bind (wpAny_newTuple ?_)
  exact wpAny_pure ⟨_, rfl, _, rfl, hy⟩
end
end K39
/-! Zr -/
set_option maxHeartbeats 4000000
/-! zip is made -/
namespace K39
open PySem PySem.Spec PyProof.Rows L2

abbrev zg1 (h : Heap) (a1 a2 : Addr) : Heap := h.push (pO (.ref a1) (.ref a2))
abbrev zg2 (h : Heap) (a1 a2 : Addr) : Heap := (zg1 h a1 a2).push (pO .none .none)
abbrev zg3 (h : Heap) (a1 a2 : Addr) : Heap := (zg2 h a1 a2).push (zO .none (.bool false) h.objs.size (zg1 h a1 a2).objs.size)
theorem meets_zip_gg (a1 g1 a2 g2 : Addr) :
    Meets (Builtin.«zip.__new__» ⟨[.type "zip", .ref a1, .ref a2], []⟩) (fun _ R s => s.heap.IsGen a1 g1 ∧ s.heap.IsGen a2 g2 ∧
      R (.ok (.ret (.ref (zg2 s.heap a1 a2).objs.size))) { s with heap := zg3 s.heap a1 a2 }) :=
  .of_wp fun prog w A R s h => by
    obtain ⟨hp, g, d, tk, os⟩ := s; obtain ⟨hl1, hl2, h⟩ := h
    have hsub := sub_zip
    have hL1 : Heap.IsGen (Shared.heap ⟨hp, g, d, tk, os⟩) a1 g1 := hl1
    have hL2 : Heap.IsGen (Shared.heap ⟨hp, g, d, tk, os⟩) a2 g2 := hl2
    wp_walk using wpAny_pyIter_gen hL1, wpAny_pyIter_gen hL2
    exact ⟨_, rfl, h⟩
abbrev zl0 (h : Heap) (l : Addr) : Heap := h.push { cls := .type "list_iterator", data := .fields #[.ref l, .int 0 0] }
theorem meets_zip_lg (l a2 g2 : Addr) (xs : Array Value) :
    Meets (Builtin.«zip.__new__» ⟨[.type "zip", .ref l, .ref a2], []⟩) (fun _ R s => s.heap.IsList l xs ∧ s.heap.IsGen a2 g2 ∧
      R (.ok (.ret (.ref (zg2 (zl0 s.heap l) s.heap.objs.size a2).objs.size))) { s with heap := zg3 (zl0 s.heap l) s.heap.objs.size a2 }) :=
  .of_wp fun prog w A R s h => by
    obtain ⟨hp, g, d, tk, os⟩ := s; obtain ⟨hl1, hl2, h⟩ := h
    have hsub := sub_zip
    have hL1 : Heap.IsList (Shared.heap ⟨hp, g, d, tk, os⟩) l xs := hl1
    have hL2 : Heap.IsGen (Shared.heap ⟨hp.push { cls := .type "list_iterator", data := .fields #[.ref l, .int 0 0] }, g, d, tk, os⟩) a2 g2 := hl2.keeps fun b o e => Heap.get?_push_of_some _ e
    wp_walk using wpAny_pyIter_list hL1, wpAny_pyIter_gen hL2
    exact ⟨_, rfl, h⟩
section
variable {P : Program} {w : World} {A : Around} {E : Value → Shared → Prop} {s : Shared}
/-- the three new objects of a zip -/
structure Zmade (h h' : Heap) (z TI TO a1 a2 : Addr) : Prop where
  fz : h'.get? z = some (zO .none (.bool false) TI TO)
  ti : h'.get? TI = some (pO (.ref a1) (.ref a2))
  to : h'.get? TO = some (pO .none .none)
  keep : ∀ c o, h.get? c = some o → h'.get? c = some o
  zn : h.objs.size ≤ z
  tn : h.objs.size ≤ TI
  on : h.objs.size ≤ TO
  tz : TI ≠ z
  oz : TO ≠ z
  to' : TI ≠ TO
theorem zg3_made (h : Heap) (a1 a2 : Addr) : Zmade h (zg3 h a1 a2) (zg2 h a1 a2).objs.size h.objs.size (zg1 h a1 a2).objs.size a1 a2 := by
  have z1 : (zg1 h a1 a2).objs.size = h.objs.size + 1 := Heap.size_push ..
  have z2 : (zg2 h a1 a2).objs.size = h.objs.size + 2 := by rw [Heap.size_push, z1]
  refine ⟨Heap.get?_push_size _ rfl, Heap.get?_push_of_some _ (Heap.get?_push_of_some _ (Heap.get?_push_size _ rfl)), Heap.get?_push_of_some _ (Heap.get?_push_size _ rfl),
    fun c o e => Heap.get?_push_of_some _ (Heap.get?_push_of_some _ (Heap.get?_push_of_some _ e)), ?_, Nat.le_refl _, ?_, ?_, ?_, ?_⟩
  · rw [z2]; omega
  · rw [z1]; omega
  · rw [z2]; exact fun q => absurd q (Nat.ne_of_lt (by omega))
  · rw [z1, z2]; exact fun q => absurd q (Nat.ne_of_lt (by omega))
  · rw [z1]; exact fun q => absurd q (Nat.ne_of_lt (by omega))
theorem call_zip_gg {a1 a2 : Addr} {g1 g2 : Nat} {Q : Value → Shared → Prop} (h1 : s.heap.IsGen a1 g1) (h2 : s.heap.IsGen a2 g2)
    (h : ∀ h' z TI TO, Zmade s.heap h' z TI TO a1 a2 → Q (.ref z) { s with heap := h' }) : wpAny (model P w) A (call (.type "zip") [.ref a1, .ref a2]) Q E s := by
  have M := zg3_made s.heap a1 a2
  exact callType_new PySem.F.called_zip (by decide) (PySem.F.typeCall_zip_2 _ _) (PySem.F.newCall_zip_2 _ _) (fun obj => PySem.F.args_object_init_3 obj _ _) PySem.F.entry_zip_new
    (meets_zip_gg a1 g1 a2 g2) ⟨h1, h2, ⟨_, M.fz, rfl⟩, h _ _ _ _ M⟩
theorem call_zip_lg {l a2 : Addr} {g2 : Nat} {xs : Array Value} {Q : Value → Shared → Prop} (h1 : s.heap.IsList l xs) (h2 : s.heap.IsGen a2 g2)
    (h : ∀ h' z TI TO, (zl0 s.heap l).IsListIter s.heap.objs.size l 0 → Zmade (zl0 s.heap l) h' z TI TO s.heap.objs.size a2 → Q (.ref z) { s with heap := h' }) : wpAny (model P w) A (call (.type "zip") [.ref l, .ref a2]) Q E s := by
  have M := zg3_made (zl0 s.heap l) s.heap.objs.size a2
  exact callType_new PySem.F.called_zip (by decide) (PySem.F.typeCall_zip_2 _ _) (PySem.F.newCall_zip_2 _ _) (fun obj => PySem.F.args_object_init_3 obj _ _) PySem.F.entry_zip_new
    (meets_zip_lg l a2 g2 xs) ⟨h1, h2, ⟨_, M.fz, rfl⟩, h _ _ _ _ ⟨_, Heap.get?_push_size _ rfl, rfl, rfl⟩ M⟩
/-- a list's iterator at its end -/
theorem next_list_end {it l : Addr} {i : Nat} {items} {Q : Option Value → Shared → Prop} (hh : A.handled = none)
    (hit : s.heap.IsListIter it l i) (hl : s.heap.IsList l items) (hx : items[i]? = none) (hQ : ∀ h', Heap.ExtBut it s.heap h' → s.heap.objs.size ≤ h'.objs.size → Q none { s with heap := h' }) : NextOk P w A it Q E s := by
  obtain ⟨o, ho, hc, hd⟩ := id hit
  obtain ⟨ol, hol, _, nl, hdl⟩ := hl
  unfold NextOk
  refine wpAny_callSpecial?_slot (name := Str.ofString "__next__") hit.typeIs slot_listiter_next (wpAny_call_entry slot_listiter_next hit.typeIs entry_listiter_next ?_ (args_listiter_next _))
  show wpAny _ _ (field (.ref it) 0 >>= _) _ _ s
  refine wpAny_bind (wpAny_field ho hd (x := .ref l) rfl ?_)
  show wpAny _ _ (if (Value.ref l == Value.none) = true then _ else _) _ _ s
  rw [if_neg (show ¬ ((Value.ref l == Value.none) = true) from Bool.false_ne_true)]
  show wpAny _ _ (field (.ref it) 1 >>= _) _ _ s
  refine wpAny_bind (wpAny_field ho hd (x := .int i 0) rfl ?_)
  show wpAny _ _ (seqItems? (.ref l) >>= _) _ _ s
  refine wpAny_bind (wpAny_seqItems hol hdl ?_)
  simp only [Int.toNat_natCast, hx]
  refine wpAny_bind (wpAny_rule (wpAny_bind (wpAny_setField ho hd (by simp) ?_)))
  show wpAny _ _ (newExc (.type "StopIteration") [] >>= _) _ _ _
  refine wpAny_bind ?_
  simp only [newExc, newTuple]
  refine wpAny_bind (wpAny_newObj_type ?_ (by size_fits))
  refine wpAny_bind (m := firstArgMember _ _) (wpAny_of_eq (a := Value.none) (by first | rfl | (simp only [firstArgMember]; rfl)) ?_)
  refine wpAny_newObj_type ?_ (by size_fits)
  simp only [raiseNew]
  refine wpAny_bind (wpAny_handled ?_)
  first | rw [show A.in1.handled = none from hh] | rw [hh]
  refine wpAny_bind (wpAny_pure (wpAny_throw ?_))
  exact .inl ⟨⟨_, _, rfl, Heap.get?_push_size _ rfl, rfl⟩, hQ _ (((Heap.SameBut.update ..).extBut.push _).push _) (by rw [Heap.size_push, Heap.size_push, (Heap.SameBut.update ..).1]; omega)⟩
end
end K39
/-! Zs -/
set_option maxHeartbeats 4000000
/-! sources of ids: a chain asleep, a list's iterator -/
namespace K39
open PySem PySem.Spec PyProof.Rows L2 GenW

/-- all but the cells own and the generators G have stayed -/
structure MvS (G : List Nat) (own : List Addr) (s s' : Shared) : Prop where
  keep : ∀ b o, b ∉ own → s.heap.get? b = some o → s'.heap.get? b = some o
  size : s.heap.objs.size ≤ s'.heap.objs.size
  gens : ∀ i, i ∉ G → s'.gens[i]? = s.gens[i]?
structure Src (X : Cx) (pins : List (Addr × Obj)) (σ : L2.St) (A0 : Around) (a : Addr) (G : List Nat) (Hok : Hp → Prop) (J : List Addr → List Str → Shared → Prop) : Prop where
  keep : ∀ {fp rem s s'}, J fp rem s → (∀ b ∈ fp, ∀ o, s.heap.get? b = some o → s'.heap.get? b = some o) → (∀ g ∈ G, s'.gens[g]? = s.gens[g]?) → J fp rem s'
  obj : ∀ {fp rem s}, J fp rem s → ∀ b ∈ fp, ∃ o, s.heap.get? b = some o
  hk : ∀ {H H'}, Hok H → Same H H' → Hok H'
  turn : ∀ {H : Hp} {s : Shared} {fp : List Addr} {rem : List Str} {Q : Option Value → Shared → Prop}, Inv X pins σ H s → Hok H → J fp rem s → (∀ b ∈ fp, FpOk X pins H b) →
    (∀ s', rem = [] → Inv X pins σ H s' → MvS G fp s s' → Q none s') →
    (∀ x ys t fp' s', rem = x :: ys → Inv X pins σ H s' → MvS G fp s s' → J fp' ys s' → (∀ b ∈ fp', FpOk X pins H b) → (∀ b ∈ fp', b ∈ fp ∨ s.heap.objs.size ≤ b) → Q (some (.str x t)) s') →
    NextOk X.prog X.w A0 a Q (fun _ _ => False) s
section
variable {X : Cx} {pins : List (Addr × Obj)} {σ : L2.St} {H : Hp} {s : Shared} {A0 : Around}
theorem BookF.same {H H' : Hp} {C bk : Addr} {lk : Lk} (B : BookF H C bk lk) (sm : Same H H') : BookF H' C bk lk := by
  obtain ⟨dx, di, fs, kvs, ⟨h1, h2, h3⟩, it⟩ := B
  exact ⟨dx, di, fs, kvs, ⟨sm _ _ h1, h2, sm _ _ h3⟩, itemsAre_keep it (.same sm)⟩
theorem src_chain {C fG fH bk L a : Addr} {lk : Lk} {full : List Str} {g : Nat} (T : BkT X.K X.mg C fG fH) (hh : A0.handled = none) (hroom : A0.depth + 1 < recursionLimit) (hu : A0.units + 129 < cLine) (hlen : full.length < 1000000) :
    Src X pins σ A0 a [g] (fun H => BookF H C bk lk) (fun fp rem s => Slp X.prog X.w X.K X.mg X.base C bk L lk full a g A0 fp rem s) where
  keep := fun S k hg => S.keep k (hg g (by simp))
  obj := fun S b hb => let ⟨o, e, _⟩ := S.obj b hb; ⟨o, e⟩
  hk := fun B sm => B.same sm
  turn := fun I B S hfp h0 h1 => turnG I T B hh hroom hu hlen S hfp (fun s' e I' V => h0 s' e I' ⟨V.keep, V.size, fun i hi => V.gens i fun z => hi (by rw [z]; simp)⟩)
    fun x ys t fp' s' e I' V S' f n => h1 x ys t fp' s' e I' ⟨V.keep, V.size, fun i hi => V.gens i fun z => hi (by rw [z]; simp)⟩ S' f n
/-- a list's iterator's next item -/
theorem next_list_item {P : Program} {w : World} {A : Around} {E : Value → Shared → Prop} {s : Shared} {it l : Addr} {i : Nat} {items} {x : Value} {Q : Option Value → Shared → Prop}
    (hit : s.heap.IsListIter it l i) (hl : s.heap.IsList l items) (hx : items[i]? = some x) (hQ : ∀ h', h'.IsListIter it l (i + 1) → Heap.SameBut it s.heap h' → Q (some x) { s with heap := h' }) : NextOk P w A it Q E s := by
  obtain ⟨o, ho, hc, hd⟩ := id hit
  obtain ⟨ol, hol, _, nl, hdl⟩ := hl
  unfold NextOk
  refine wpAny_callSpecial?_slot (name := Str.ofString "__next__") hit.typeIs slot_listiter_next (wpAny_call_entry slot_listiter_next hit.typeIs entry_listiter_next ?_ (args_listiter_next _))
  show wpAny _ _ (field (.ref it) 0 >>= _) _ _ s
  refine wpAny_bind (wpAny_field ho hd (x := .ref l) rfl ?_)
  show wpAny _ _ (if (Value.ref l == Value.none) = true then _ else _) _ _ s
  rw [if_neg (show ¬ ((Value.ref l == Value.none) = true) from Bool.false_ne_true)]
  show wpAny _ _ (field (.ref it) 1 >>= _) _ _ s
  refine wpAny_bind (wpAny_field ho hd (x := .int i 0) rfl ?_)
  show wpAny _ _ (seqItems? (.ref l) >>= _) _ _ s
  refine wpAny_bind (wpAny_seqItems hol hdl ?_)
  simp only [Int.toNat_natCast, hx]
  refine wpAny_bind (wpAny_setField ho hd (by simp) (wpAny_pure ⟨x, rfl, _, rfl, hQ _ ?_ (Heap.SameBut.update ..)⟩))
  exact ⟨_, Heap.get?_update_self _ ho (Obj.isFreed_of_fields (Obj.data_mapFields hd _)), (Obj.cls_mapFields ..).trans hc, by
    rw [Obj.data_mapFields hd]; simp [rawInt]⟩
theorem src_list {it l : Addr} {xs : List Str} (hh : A0.handled = none) :
    Src X pins σ A0 it [] (fun H => H l = some (.lst (xs.map V.str))) (fun fp rem s => fp = [it] ∧ ∃ i, s.heap.IsListIter it l i ∧ rem = xs.drop i) where
  keep := fun ⟨e, i, h, r⟩ k _ => ⟨e, i, h.at fun o q => k it (by rw [e]; simp) o q, r⟩
  obj := fun ⟨e, i, h, r⟩ b hb => by
    rw [e] at hb
    rw [List.mem_singleton.mp hb]
    obtain ⟨o, ho, _⟩ := h
    exact ⟨o, ho⟩
  hk := fun h sm => sm _ _ h
  turn := by
    rintro H s fp rem Q I hl ⟨rfl, i, h, rfl⟩ hf h0 h1
    obtain ⟨its, r, p1, _⟩ := I.list (.of hl)
    have hlen := r.length
    rw [List.length_map] at hlen
    have mv : ∀ {h' : Heap}, Heap.ExtBut it s.heap h' → s.heap.objs.size ≤ h'.objs.size → Inv X pins σ H { s with heap := h' } := fun {h'} k hz =>
      inv_moved (g := 0) (own := [it]) I ⟨fun b o n e => k b o (fun z => n (by rw [z]; simp)) e, hz, rfl, fun _ _ => rfl, id⟩ hf
    by_cases hi : i < xs.length
    · obtain ⟨u, hu, ru⟩ := r.get (i := i) (x := .str xs[i]) (by rw [List.getElem?_map, List.getElem?_eq_getElem hi]; rfl)
      obtain ⟨t, rfl⟩ := (show ∃ t, u = Value.str xs[i] t from ru)
      refine next_list_item h p1.isList (x := .str xs[i] t) (by simpa using hu) fun h' hit sb => ?_
      refine h1 xs[i] (xs.drop (i + 1)) t [it] _ (List.drop_eq_getElem_cons hi) (mv sb.extBut (Nat.le_of_eq sb.1.symm)) ⟨fun b o n e => sb.extBut b o (fun z => n (by rw [z]; simp)) e, Nat.le_of_eq sb.1.symm, fun _ _ => rfl⟩ ⟨rfl, i + 1, hit, rfl⟩ hf fun b hb => .inl hb
    · refine next_list_end hh h p1.isList (by simp; omega) fun h' k hz => ?_
      exact h0 _ (List.drop_eq_nil_of_le (by omega)) (mv k hz) ⟨fun b o n e => k b o (fun z => n (by rw [z]; simp)) e, hz, fun _ _ => rfl⟩
end
end K39
/-! Zt -/
set_option maxHeartbeats 4000000
/-! list(zip(..)) of two sources -/
namespace K39
open PySem PySem.Spec PyProof.Rows L2 GenW

section
variable {X : Cx} {pins : List (Addr × Obj)} {σ : L2.St} {H : Hp} {s s' : Shared} {A0 : Around} {S z TI TO a1 a2 : Addr} {G1 G2 : List Nat} {O1 O2 : Hp → Prop} {J1 J2 : List Addr → List Str → Shared → Prop} {acc : Array Value} {fp1 fp2 : List Addr} {r1 r2 : List Str}
structure Zst (X : Cx) (pins : List (Addr × Obj)) (σ : L2.St) (H : Hp) (S z TI TO a1 a2 : Addr) (J1 J2 : List Addr → List Str → Shared → Prop) (acc : Array Value) (fp1 fp2 : List Addr) (r1 r2 : List Str) (s : Shared) : Prop where
  I : Inv X pins σ H s
  j1 : J1 fp1 r1 s
  j2 : J2 fp2 r2 s
  f1 : ∀ b ∈ fp1, FpOk X pins H b
  f2 : ∀ b ∈ fp2, FpOk X pins H b
  dj : ∀ b ∈ fp1, b ∉ fp2
  fr : ∀ b ∈ [S, z, TI, TO], FpOk X pins H b ∧ b ∉ fp1 ∧ b ∉ fp2
  ti : s.heap.get? TI = some (pO (.ref a1) (.ref a2))
  to : ∃ p q, s.heap.get? TO = some (pO p q)
  sl : ∃ c, s.heap.get? S = some (lO acc c)
  zz : ∃ o, s.heap.get? z = some o
  n1 : TI ≠ z
  n2 : TO ≠ z
  n3 : TI ≠ TO
  n4 : S ≠ z
  n5 : S ≠ TO
  n6 : S ≠ TI
theorem Zst.cells (Z : Zst X pins σ H S z TI TO a1 a2 J1 J2 acc fp1 fp2 r1 r2 s) (S1 : Src X pins σ A0 a1 G1 O1 J1) (S2 : Src X pins σ A0 a2 G2 O2 J2) {h' : Heap} (k : ∀ b o, b ≠ z → b ≠ TO → s.heap.get? b = some o → h'.get? b = some o) (hz : s.heap.objs.size ≤ h'.objs.size)
    (to' : ∃ p q, h'.get? TO = some (pO p q)) (hzz : ∃ o, h'.get? z = some o) : Zst X pins σ H S z TI TO a1 a2 J1 J2 acc fp1 fp2 r1 r2 { s with heap := h' } := by
  have fz := Z.fr z (by simp)
  have ft := Z.fr TO (by simp)
  have nm : ∀ {b : Addr} {fp : List Addr}, z ∉ fp → TO ∉ fp → b ∈ fp → b ≠ z ∧ b ≠ TO := fun h1 h2 hb => ⟨fun q => h1 (by rw [← q]; exact hb), fun q => h2 (by rw [← q]; exact hb)⟩
  refine ⟨inv_moved (g := 0) (own := [z, TO]) Z.I ⟨fun b o n e => k b o (fun q => n (by rw [q]; simp)) (fun q => n (by rw [q]; simp)) e, hz, rfl, fun _ _ => rfl, id⟩ (fun b hb => ?_), S1.keep Z.j1 (fun b hb o e => ?_) fun _ _ => rfl, S2.keep Z.j2 (fun b hb o e => ?_) fun _ _ => rfl, Z.f1, Z.f2, Z.dj, Z.fr,
    k _ _ Z.n1 Z.n3 Z.ti, to', ?_, hzz, Z.n1, Z.n2, Z.n3, Z.n4, Z.n5, Z.n6⟩
  · rcases List.mem_cons.mp hb with rfl | hb
    · exact fz.1
    · rw [List.mem_singleton.mp hb]; exact ft.1
  · obtain ⟨m1, m2⟩ := nm fz.2.1 ft.2.1 hb
    exact k b o m1 m2 e
  · obtain ⟨m1, m2⟩ := nm fz.2.2 ft.2.2 hb
    exact k b o m1 m2 e
  · obtain ⟨c, e⟩ := Z.sl
    exact ⟨c, k _ _ Z.n4 Z.n5 e⟩
theorem Zst.lt (Z : Zst X pins σ H S z TI TO a1 a2 J1 J2 acc fp1 fp2 r1 r2 s) : ∀ b ∈ [S, z, TI, TO], b < s.heap.objs.size := fun b hb => by
  obtain ⟨c, e1⟩ := Z.sl
  obtain ⟨p, q, e2⟩ := Z.to
  obtain ⟨o, e3⟩ := Z.zz
  rcases List.mem_cons.mp hb with rfl | hb
  · exact Heap.lt_size e1
  rcases List.mem_cons.mp hb with rfl | hb
  · exact Heap.lt_size e3
  rcases List.mem_cons.mp hb with rfl | hb
  · exact Heap.lt_size Z.ti
  · rw [List.mem_singleton.mp hb]; exact Heap.lt_size e2
theorem Zst.turn1 (Z : Zst X pins σ H S z TI TO a1 a2 J1 J2 acc fp1 fp2 r1 r2 s) (S1 : Src X pins σ A0 a1 G1 O1 J1) (S2 : Src X pins σ A0 a2 G2 O2 J2) (hG : ∀ g ∈ G2, g ∉ G1) (hO : O1 H) :
    NextOk X.prog X.w A0 a1 (fun r s1 => match r with
      | none => r1 = [] ∧ Inv X pins σ H s1 ∧ MvS G1 fp1 s s1
      | some v => ∃ x ys t fp1', v = .str x t ∧ r1 = x :: ys ∧ MvS G1 fp1 s s1 ∧ Zst X pins σ H S z TI TO a1 a2 J1 J2 acc fp1' fp2 ys r2 s1) (fun _ _ => False) s := by
  refine S1.turn Z.I hO Z.j1 Z.f1 (fun s1 e I1 V => ⟨e, I1, V⟩) fun x ys t fp' s1 e I1 V j f n => ⟨x, ys, t, fp', rfl, e, V, I1, j, S2.keep Z.j2 (fun b hb o q => V.keep b o (fun m => Z.dj b m hb) q) (fun g hg => V.gens g (hG g hg)), f, Z.f2, fun b hb hb2 => ?_, fun b hb => ?_, ?_, ?_, ?_, ?_, Z.n1, Z.n2, Z.n3, Z.n4, Z.n5, Z.n6⟩
  · rcases n b hb with m | m
    · exact Z.dj b m hb2
    · obtain ⟨o, q⟩ := S2.obj Z.j2 b hb2
      exact absurd (Nat.lt_of_lt_of_le (Heap.lt_size q) m) (Nat.lt_irrefl _)
  · obtain ⟨m1, m2, m3⟩ := Z.fr b hb
    refine ⟨m1, fun hb1 => ?_, m3⟩
    rcases n b hb1 with m | m
    · exact m2 m
    · exact absurd (Nat.lt_of_lt_of_le (Z.lt b hb) m) (Nat.lt_irrefl _)
  · exact V.keep _ _ (Z.fr TI (by simp)).2.1 Z.ti
  · obtain ⟨p, q, e2⟩ := Z.to
    exact ⟨p, q, V.keep _ _ (Z.fr TO (by simp)).2.1 e2⟩
  · obtain ⟨c, e1⟩ := Z.sl
    exact ⟨c, V.keep _ _ (Z.fr S (by simp)).2.1 e1⟩
  · obtain ⟨o, e1⟩ := Z.zz
    exact ⟨o, V.keep _ _ (Z.fr z (by simp)).2.1 e1⟩
theorem Zst.turn2 (Z : Zst X pins σ H S z TI TO a1 a2 J1 J2 acc fp1 fp2 r1 r2 s) (S1 : Src X pins σ A0 a1 G1 O1 J1) (S2 : Src X pins σ A0 a2 G2 O2 J2) (hG : ∀ g ∈ G2, g ∉ G1) (hO : O2 H) :
    NextOk X.prog X.w A0 a2 (fun r s1 => match r with
      | none => r2 = [] ∧ Inv X pins σ H s1 ∧ MvS G2 fp2 s s1
      | some v => ∃ x ys t fp2', v = .str x t ∧ r2 = x :: ys ∧ MvS G2 fp2 s s1 ∧ Zst X pins σ H S z TI TO a1 a2 J1 J2 acc fp1 fp2' r1 ys s1) (fun _ _ => False) s := by
  refine S2.turn Z.I hO Z.j2 Z.f2 (fun s1 e I1 V => ⟨e, I1, V⟩) fun x ys t fp' s1 e I1 V j f n => ⟨x, ys, t, fp', rfl, e, V, I1, S1.keep Z.j1 (fun b hb o q => V.keep b o (fun m => Z.dj b hb m) q) (fun g hg => V.gens g (fun m => hG g m hg)), j, Z.f1, f, fun b hb hb2 => ?_, fun b hb => ?_, ?_, ?_, ?_, ?_, Z.n1, Z.n2, Z.n3, Z.n4, Z.n5, Z.n6⟩
  · rcases n b hb2 with m | m
    · exact Z.dj b hb m
    · obtain ⟨o, q⟩ := S1.obj Z.j1 b hb
      exact absurd (Nat.lt_of_lt_of_le (Heap.lt_size q) m) (Nat.lt_irrefl _)
  · obtain ⟨m1, m2, m3⟩ := Z.fr b hb
    refine ⟨m1, m2, fun hb1 => ?_⟩
    rcases n b hb1 with m | m
    · exact m3 m
    · exact absurd (Nat.lt_of_lt_of_le (Z.lt b hb) m) (Nat.lt_irrefl _)
  · exact V.keep _ _ (Z.fr TI (by simp)).2.2 Z.ti
  · obtain ⟨p, q, e2⟩ := Z.to
    exact ⟨p, q, V.keep _ _ (Z.fr TO (by simp)).2.2 e2⟩
  · obtain ⟨c, e1⟩ := Z.sl
    exact ⟨c, V.keep _ _ (Z.fr S (by simp)).2.2 e1⟩
  · obtain ⟨o, e1⟩ := Z.zz
    exact ⟨o, V.keep _ _ (Z.fr z (by simp)).2.2 e1⟩
/-- something of ours in the heap is tracked from now on -/
theorem inv_trackO {S : Addr} {o : HO} (I : Inv X pins σ H s) (fS : FpOk X pins H S) (ok : ObjOk X.prog X.w (upd H S o) s.heap S o) : Inv X pins σ (upd H S o) s := by
  obtain ⟨hS, f1, _, f3, f4, f5⟩ := fS
  refine I.call' (ch := [S]) rfl ⟨fun _ _ e _ _ _ => e, fun b o e _ _ _ => ⟨o.slots, e⟩, fun b o e n hx => ?_, fun b o e _ => ⟨o, e⟩, fun b xs q => ?_, fun b o u q => ?_, fun b ps q => ?_⟩ (fun b u q => ?_) I.bare fun b hb => ?_
  · rw [upd_ne (fun z => hx (by rw [z]; exact List.mem_cons_self))]; exact n
  · rw [upd_ne (ne_of_none q hS)]; exact q
  · rw [upd_ne (ne_of_none q hS)]; exact q
  · exact ⟨#[], by rw [upd_ne (ne_of_none q hS), q]; simp⟩
  · by_cases hb : b = S
    · subst hb
      rw [upd_same] at q
      cases q
      exact ok
    · rw [upd_ne hb] at q
      exact (I.hok b u q).stay (fun _ _ _ z => z) (fun d z => by rw [upd_ne (ne_of_none z hS)]; exact z) fun d xs z => by rw [upd_ne (ne_of_none z hS)]; exact z
  · rw [List.mem_singleton.mp hb]; exact ⟨f3, f1, f4, f5⟩
def PairsAt (H : Hp) (ts : List Addr) (ps : List (Str × Str)) : Prop := Paired (fun t p => H t = some (.tup [.str p.1, .str p.2])) ts ps
theorem pairs_same {H H' : Hp} (sm : Same H H') : ∀ {ts : List Addr} {ps : List (Str × Str)}, PairsAt H ts ps → PairsAt H' ts ps
  | _, _, .nil => .nil
  | _, _, .cons h t => .cons (sm _ _ h) (pairs_same sm t)
/-- the list of pairs is being filled -/
def Zil (X : Cx) (pins : List (Addr × Obj)) (σ : L2.St) (H0 : Hp) (S z TI TO a1 a2 : Addr) (J1 J2 : List Addr → List Str → Shared → Prop) (full : List (Str × Str)) (m : Nat) (acc : Array Value) (s : Shared) : Prop :=
  ∃ Hc fp1 fp2 r1 r2 ts ps, m = r1.length ∧ Same H0 Hc ∧ Zst X pins σ Hc S z TI TO a1 a2 J1 J2 acc fp1 fp2 r1 r2 s ∧
    (s.heap.get? z = some (zO .none (.bool false) TI TO) ∨ ∃ (T : Addr) (b : Bool) (xs : List V), s.heap.get? z = some (zO (rawInt T) (.bool b) TI TO) ∧ Hc T = some (.tup xs)) ∧ Vals (ts.map V.ref) acc.toList ∧ PairsAt Hc ts ps ∧ full = ps ++ r1.zip r2
/-- one more pair -/
theorem Zst.one {H0 : Hp} {full ps : List (Str × Str)} {ts : List Addr} {x y : Str} {tx ty : Tok} {T : Addr} {Q : Prop} (Z : Zst X pins σ H S z TI TO a1 a2 J1 J2 acc fp1 fp2 r1 r2 s) (S1 : Src X pins σ A0 a1 G1 O1 J1) (S2 : Src X pins σ A0 a2 G2 O2 J2) (sm : Same H0 H)
    (hT : s.heap.get? T = some (pO (.str x tx) (.str y ty))) (fT : FpOk X pins H T) (nT : ∀ b ∈ [S, z, TI, TO], T ≠ b) (nT1 : T ∉ fp1) (nT2 : T ∉ fp2)
    (hz : ∃ (T' : Addr) (b : Bool), s.heap.get? z = some (zO (rawInt T') (.bool b) TI TO) ∧ (T' = T ∨ ∃ xs, H T' = some (.tup xs))) (hv : Vals (ts.map V.ref) acc.toList) (hp : PairsAt H ts ps) (hf : full = ps ++ (x, y) :: r1.zip r2) (hl : full.length < 1000000) :
    ∃ c, s.heap.get? S = some (lO acc c) ∧ acc.size < sizeLine ∧ ∃ m', m' < r1.length + 1 ∧ Zil X pins σ H0 S z TI TO a1 a2 J1 J2 full m' (acc.push (.ref T)) { s with heap := s.heap.update S (Obj.mapSeq (·.push (.ref T))) } := by
  obtain ⟨c, hS⟩ := Z.sl
  have smT : Same H (upd H T (.tup [.str x, .str y])) := fun b o e => by rw [upd_ne (ne_of_none e fT.1)]; exact e
  have IT : Inv X pins σ (upd H T (.tup [.str x, .str y])) s := inv_trackO Z.I fT ⟨by show 2 ≤ sizeLine; decide, [.str x tx, .str y ty], .cons ⟨tx, rfl⟩ (.cons ⟨ty, rfl⟩ .nil), ⟨_, hT, rfl, _, rfl⟩⟩
  have fpT : ∀ {b : Addr}, FpOk X pins H b → b ≠ T → FpOk X pins (upd H T (.tup [.str x, .str y])) b := fun f n => ⟨by rw [upd_ne n]; exact f.1, f.2⟩
  have fS := fpT (Z.fr S (by simp)).1 (Ne.symm (nT S (by simp)))
  have other : ∀ b o, b ≠ S → s.heap.get? b = some o → (s.heap.update S (Obj.mapSeq (·.push (.ref T)))).get? b = some o := fun b o n e => (Heap.get?_update_other _ _ (Ne.symm n)).trans e
  have hlen : ts.length = ps.length := Paired.length hp
  have hal : acc.size = ts.length := by
    have e1 := hv.length
    rw [List.length_map] at e1
    have e2 : acc.toList.length = acc.size := by simp
    omega
  have hps : ps.length < 1000000 := by
    rw [hf, List.length_append] at hl
    omega
  have nS : ∀ {b : Addr} {fp : List Addr}, S ∉ fp → b ∈ fp → b ≠ S := fun h1 hb q => h1 (by rw [← q]; exact hb)
  refine ⟨c, hS, ?_, r1.length, Nat.lt_succ_self _, upd H T (.tup [.str x, .str y]), fp1, fp2, r1, r2, ts ++ [T], ps ++ [(x, y)], rfl, sm.trans smT, ⟨inv_cell (o := lO acc c) IT fS, S1.keep Z.j1 (fun b hb o e => other b o (nS (Z.fr S (by simp)).2.1 hb) e) fun _ _ => rfl, S2.keep Z.j2 (fun b hb o e => other b o (nS (Z.fr S (by simp)).2.2 hb) e) fun _ _ => rfl,
    fun b hb => fpT (Z.f1 b hb) (fun q => nT1 (by rw [← q]; exact hb)), fun b hb => fpT (Z.f2 b hb) (fun q => nT2 (by rw [← q]; exact hb)), Z.dj, fun b hb => ⟨fpT (Z.fr b hb).1 (Ne.symm (nT b hb)), (Z.fr b hb).2⟩, other _ _ (Ne.symm Z.n6) Z.ti, ?_, ?_, ?_, Z.n1, Z.n2, Z.n3, Z.n4, Z.n5, Z.n6⟩, .inr ?_, ?_, ?_, ?_⟩
  · rw [hal, hlen]
    exact Nat.lt_of_lt_of_le hps (by decide)
  · obtain ⟨p, q, e⟩ := Z.to
    exact ⟨p, q, other _ _ (Ne.symm Z.n5) e⟩
  · exact ⟨_, Heap.get?_update_self _ hS rfl⟩
  · obtain ⟨o, e⟩ := Z.zz
    exact ⟨o, other _ _ (Ne.symm Z.n4) e⟩
  · obtain ⟨T', b, e, h⟩ := hz
    rcases h with rfl | ⟨xs, h⟩
    · exact ⟨T', b, _, other _ _ (Ne.symm Z.n4) e, upd_same⟩
    · exact ⟨T', b, xs, other _ _ (Ne.symm Z.n4) e, smT _ _ h⟩
  · rw [List.map_append, Array.toList_push]
    exact hv.append (.cons rfl .nil)
  · exact paired_snoc (F := fun (t : Addr) (p : Str × Str) => (upd H T (.tup [.str x, .str y])) t = some (.tup [.str p.1, .str p.2])) (b := (x, y)) upd_same (pairs_same smT hp)
  · rw [hf, List.append_assoc]
    rfl
/-- the three new objects of a zip: no cell below n0 -/
structure Zm (n0 : Nat) (h' : Heap) (z TI TO a1 a2 : Addr) : Prop where
  fz : h'.get? z = some (zO .none (.bool false) TI TO)
  ti : h'.get? TI = some (pO (.ref a1) (.ref a2))
  to : h'.get? TO = some (pO .none .none)
  zn : n0 ≤ z
  tn : n0 ≤ TI
  on : n0 ≤ TO
  tz : TI ≠ z
  oz : TO ≠ z
  to' : TI ≠ TO
theorem Zmade.zm {h h' : Heap} (M : Zmade h h' z TI TO a1 a2) : Zm h.objs.size h' z TI TO a1 a2 := ⟨M.fz, M.ti, M.to, M.zn, M.tn, M.on, M.tz, M.oz, M.to'⟩
/-- list(z), z just made of two sources -/
theorem list_zip {H0 : Hp} {n0 : Nat} {k : Nat} {Q : Value → Shared → Prop} {E : Value → Shared → Prop} (I : Inv X pins σ H s) (hr : Room k X.A) (S1 : Src X pins σ X.A.in1.in1.in1 a1 G1 O1 J1) (S2 : Src X pins σ X.A.in1.in1.in1 a2 G2 O2 J2) (hG : ∀ g ∈ G2, g ∉ G1) (o1 : O1 H) (o2 : O2 H)
    (M : Zm n0 s.heap z TI TO a1 a2) (fz : FpOk X pins H z) (fti : FpOk X pins H TI) (fto : FpOk X pins H TO) (j1 : J1 fp1 r1 s) (j2 : J2 fp2 r2 s) (f1 : ∀ b ∈ fp1, FpOk X pins H b) (f2 : ∀ b ∈ fp2, FpOk X pins H b) (dj : ∀ b ∈ fp1, b ∉ fp2)
    (w1 : ∀ b ∈ fp1, b < n0) (w2 : ∀ b ∈ fp2, b < n0) (hl : (r1.zip r2).length < 1000000)
    (hQ : ∀ Hc S ts s', Inv X pins σ (upd Hc S (.lst (ts.map V.ref))) s' → Hc S = none → H S = none → Same H Hc → PairsAt Hc ts (r1.zip r2) → Q (.ref S) s') :
    wpAny (model X.prog X.w) X.A (call (.type "list") [.ref z]) Q E s := by
  have nofp : ∀ {b : Addr} {fp : List Addr}, n0 ≤ b → (∀ c ∈ fp, c < n0) → b ∉ fp := fun h1 h2 hb => Nat.lt_irrefl _ (Nat.lt_of_lt_of_le (h2 _ hb) h1)
  have lz := Heap.lt_size M.fz
  have lt := Heap.lt_size M.ti
  have lo := Heap.lt_size M.to
  have l0 : n0 ≤ s.heap.objs.size := Nat.le_trans M.zn (Nat.le_of_lt lz)
  have nS : ∀ {b : Addr}, b < s.heap.objs.size → s.heap.objs.size ≠ b := fun h => Nat.ne_of_gt h
  refine list_callJ (T := "zip") (J := Zil X pins σ H s.heap.objs.size z TI TO a1 a2 J1 J2 (r1.zip r2)) ⟨_, M.fz, rfl⟩ (by rw [typeLookup_type, builtinLookup_eq_fast]; kernel_rfl) (by rw [typeLookup_type, builtinLookup_eq_fast]; kernel_rfl) (by decide) (by decide)
    (fun A Q E h' hk q => wpAny_pyIter_zip (hk _ _ M.fz) q) (fun h' c hk hS hz => ⟨_, H, fp1, fp2, r1, r2, [], [], rfl, Same.refl _, ⟨I.kept (t' := s.toks) hk, S1.keep j1 (fun b _ o e => hk b o e) fun _ _ => rfl, S2.keep j2 (fun b _ o e => hk b o e) fun _ _ => rfl, f1, f2, dj, fun b hb => ?_, hk _ _ M.ti, ⟨_, _, hk _ _ M.to⟩, ⟨c, hS⟩, ⟨_, hk _ _ M.fz⟩, M.tz, M.oz, M.to', nS lz, nS lo, nS lt⟩,
      .inl (hk _ _ M.fz), .nil, .nil, rfl⟩) fun m acc s' J => ?_
  · rcases List.mem_cons.mp hb with rfl | hb
    · exact ⟨I.fpOk (Nat.le_refl _) (I.hok.fresh (Nat.le_refl _)), nofp l0 w1, nofp l0 w2⟩
    rcases List.mem_cons.mp hb with rfl | hb
    · exact ⟨fz, nofp M.zn w1, nofp M.zn w2⟩
    rcases List.mem_cons.mp hb with rfl | hb
    · exact ⟨fti, nofp M.tn w1, nofp M.tn w2⟩
    · rw [List.mem_singleton.mp hb]
      exact ⟨fto, nofp M.on w1, nofp M.on w2⟩
  have hnSH : H s.heap.objs.size = none := I.hok.fresh (Nat.le_refl _)
  generalize s.heap.objs.size = S at J hnSH ⊢
  obtain ⟨Hc, fp1', fp2', q1, q2, ts, ps, rfl, sm, Z, hst, hv, hp, hf⟩ := J
  have O1' := S1.hk o1 sm
  have O2' := S2.hk o2 sm
  -- the end
  have fin : ∀ {s4 : Shared}, Inv X pins σ Hc s4 → (∃ c, s4.heap.get? S = some (lO acc c)) → (q1 = [] ∨ q2 = []) → Q (.ref S) s4 := by
    intro s4 I4 ⟨c, e⟩ hq
    have e2 : q1.zip q2 = [] := by rcases hq with rfl | rfl <;> simp
    rw [e2, List.append_nil] at hf
    subst hf
    have hlen : ts.length = (r1.zip r2).length := Paired.length hp
    exact hQ Hc S ts s4 (inv_track I4 (Z.fr S (by simp)).1 e hv (by rw [List.length_map, hlen]; exact Nat.le_trans (Nat.le_of_lt hl) (by decide))) (Z.fr S (by simp)).1.1 hnSH sm hp
  -- a pair
  have pair : ∀ {x y : Str} {tx ty : Tok} {xs ys : List Str} {g1 g2 : List Addr} {s4 : Shared} {h5 : Heap} {T : Addr} {n0 : Nat}, q1 = x :: xs → q2 = y :: ys → Zst X pins σ Hc S z TI TO a1 a2 J1 J2 acc g1 g2 xs ys s4 → T = s4.heap.objs.size →
      h5.get? T = some (pO (.str x tx) (.str y ty)) → (∀ c o, c ≠ z → c ≠ TO → s4.heap.get? c = some o → h5.get? c = some o) → h5.objs.size = s4.heap.objs.size + 1 → (∃ p q, h5.get? TO = some (pO p q)) →
      (∃ (T' : Addr) (b : Bool), h5.get? z = some (zO (rawInt T') (.bool b) TI TO) ∧ (T' = T ∨ ∃ xs, Hc T' = some (.tup xs))) →
      ∃ c, h5.get? S = some (lO acc c) ∧ acc.size < sizeLine ∧ ∃ m', m' < q1.length ∧ Zil X pins σ H S z TI TO a1 a2 J1 J2 (r1.zip r2) m' (acc.push (.ref T)) { s4 with heap := h5.update S (Obj.mapSeq (·.push (.ref T))) } := by
    intro x y tx ty xs ys g1 g2 s4 h5 T n0 e1 e2 Z4 eT hT hk hsz hto hz
    subst e1 e2 eT
    have Z5 := Z4.cells S1 S2 (h' := h5) hk (by omega) hto (by obtain ⟨T', b, e, _⟩ := hz; exact ⟨_, e⟩)
    have fresh : ∀ {b : Addr} {o : Obj}, s4.heap.get? b = some o → s4.heap.objs.size ≠ b := fun e => Nat.ne_of_gt (Heap.lt_size e)
    exact Z5.one (Q := True) S1 S2 sm hT (Z4.I.fpOk (Nat.le_refl _) (Z4.I.hok.fresh (Nat.le_refl _))) (fun b hb => Nat.ne_of_gt (Z4.lt b hb)) (fun hb => by obtain ⟨o, e⟩ := S1.obj Z4.j1 _ hb; exact fresh e rfl) (fun hb => by obtain ⟨o, e⟩ := S2.obj Z4.j2 _ hb; exact fresh e rfl) hz hv hp hf hl
  rcases hst with hz | ⟨T0, b0, xs0, hz, hT0⟩
  · obtain ⟨p, q, hTO⟩ := Z.to
    refine zip_first hz Z.ti hTO Z.n1 Z.n2 fun h1 hz1 sb1 => ?_
    have Z1 := Z.cells S1 S2 (h' := h1) (fun b o n _ e => sb1.extBut b o n e) (Nat.le_of_eq sb1.1.symm) ⟨p, q, sb1.extBut _ _ Z.n2 hTO⟩ ⟨_, hz1⟩
    refine (Z1.turn1 S1 S2 hG O1').mono (fun r s2 hr2 => ?_) fun _ _ z => z
    cases r with
    | none =>
      obtain ⟨e, I2, V⟩ := hr2
      refine ⟨V.keep _ _ (Z.fr z (by simp)).2.1 hz1, fun h3 hz3 sb3 => ?_⟩
      refine fin (inv_moved (g := 0) (own := [z]) I2 ⟨fun b o n e => sb3.extBut b o (fun q => n (by rw [q]; simp)) e, Nat.le_of_eq sb3.1.symm, rfl, fun _ _ => rfl, id⟩ fun b hb => by rw [List.mem_singleton.mp hb]; exact (Z.fr z (by simp)).1) ?_ (.inl e)
      obtain ⟨c, eS⟩ := Z1.sl
      exact ⟨c, sb3.extBut _ _ Z.n4 (V.keep _ _ (Z.fr S (by simp)).2.1 eS)⟩
    | some v =>
      obtain ⟨x, xs, tx, g1, rfl, e1, V, Z2⟩ := hr2
      have hz2 := V.keep _ _ (Z.fr z (by simp)).2.1 hz1
      have hTO2 : s2.heap.get? TO = some (pO p q) := V.keep _ _ (Z.fr TO (by simp)).2.1 (sb1.extBut _ _ Z.n2 hTO)
      refine ⟨hz2, hTO2, fun h3 hTO3 sb3 => ?_⟩
      have hz3 : h3.get? z = _ := sb3.extBut _ _ (Ne.symm Z.n2) hz2
      have Z3 := Z2.cells S1 S2 (h' := h3) (fun b o _ n e => sb3.extBut b o n e) (Nat.le_of_eq sb3.1.symm) ⟨_, _, hTO3⟩ ⟨_, hz3⟩
      refine (Z3.turn2 S1 S2 hG O2').mono (fun r s4 hr4 => ?_) fun _ _ z => z
      cases r with
      | none =>
        obtain ⟨e, I4, V4⟩ := hr4
        refine ⟨V4.keep _ _ (Z3.fr z (by simp)).2.2 hz3, fun h5 hz5 sb5 => ?_⟩
        refine fin (inv_moved (g := 0) (own := [z]) I4 ⟨fun b o n e => sb5.extBut b o (fun q => n (by rw [q]; simp)) e, Nat.le_of_eq sb5.1.symm, rfl, fun _ _ => rfl, id⟩ fun b hb => by rw [List.mem_singleton.mp hb]; exact (Z.fr z (by simp)).1) ?_ (.inr e)
        obtain ⟨c, eS⟩ := Z3.sl
        exact ⟨c, sb5.extBut _ _ Z.n4 (V4.keep _ _ (Z3.fr S (by simp)).2.2 eS)⟩
      | some v =>
        obtain ⟨y, ys, ty, g2, rfl, e2, V4, Z4⟩ := hr4
        refine ⟨V4.keep _ _ (Z3.fr z (by simp)).2.2 hz3, V4.keep _ _ (Z3.fr TO (by simp)).2.2 hTO3, fun h5 hz5 hTO5 hT5 hsz5 hk5 => ?_⟩
        exact pair (n0 := 0) (s4 := s4) (h5 := h5) e1 e2 Z4 rfl hT5 hk5 hsz5 ⟨_, _, hTO5⟩ ⟨_, _, hz5, .inl rfl⟩
  · obtain ⟨oT, eT⟩ : ∃ oT, s'.heap.get? T0 = some oT := by
      obtain ⟨_, its, _, ob, h, _⟩ := (show ObjOk X.prog X.w Hc s'.heap T0 (.tup xs0) from Z.I.hok _ _ hT0)
      exact ⟨_, h⟩
    refine zip_again hz Z.ti eT Z.n1 fun h1 hz1 hk1 hs1 => ?_
    obtain ⟨p, q, hTO⟩ := Z.to
    have Z1 := Z.cells S1 S2 (h' := h1) (fun b o n _ e => hk1 b o n e) (Nat.le_of_eq hs1.symm) ⟨p, q, hk1 _ _ Z.n2 hTO⟩ ⟨_, hz1⟩
    refine (Z1.turn1 S1 S2 hG O1').mono (fun r s2 hr2 => ?_) fun _ _ z => z
    cases r with
    | none =>
      obtain ⟨e, I2, V⟩ := hr2
      obtain ⟨c, eS⟩ := Z1.sl
      exact fin I2 ⟨c, V.keep _ _ (Z.fr S (by simp)).2.1 eS⟩ (.inl e)
    | some v =>
      obtain ⟨x, xs, tx, g1, rfl, e1, V, Z2⟩ := hr2
      have hz2 := V.keep _ _ (Z.fr z (by simp)).2.1 hz1
      refine (Z2.turn2 S1 S2 hG O2').mono (fun r s4 hr4 => ?_) fun _ _ z => z
      cases r with
      | none =>
        obtain ⟨e, I4, V4⟩ := hr4
        obtain ⟨c, eS⟩ := Z2.sl
        exact fin I4 ⟨c, V4.keep _ _ (Z2.fr S (by simp)).2.2 eS⟩ (.inr e)
      | some v =>
        obtain ⟨y, ys, ty, g2, rfl, e2, V4, Z4⟩ := hr4
        obtain ⟨p4, q4, hTO4⟩ := Z4.to
        exact pair (n0 := 0) (s4 := s4) (h5 := s4.heap.push (pO (.str x tx) (.str y ty))) e1 e2 Z4 rfl (Heap.get?_push_size _ rfl) (fun c o _ _ e => Heap.get?_push_of_some _ e) (Heap.size_push ..) ⟨p4, q4, Heap.get?_push_of_some _ hTO4⟩ ⟨T0, true, Heap.get?_push_of_some _ (V4.keep _ _ (Z2.fr z (by simp)).2.2 hz2), .inr ⟨_, hT0⟩⟩
end
end K39
/-! Zu -/
set_option maxHeartbeats 4000000
/-! list(zip(..)): the expressions -/
namespace K39
open PySem PySem.Spec PyProof.Rows L2 GenW

/-- the list of these pairs -/
def RPairs (H : Hp) (ps : List (Str × Str)) (Q : VK) : Prop := ∀ (Hc : Hp) (S : Addr) (ts : List Addr), Same H Hc → Hc S = none → PairsAt Hc ts ps → Q (.ref S) (upd Hc S (.lst (ts.map V.ref)))
def tZipCC (C : Addr) (i j k : Nat) : TE := fun σ H Q => ∃ (bk : Addr) (y1 y2 : Str) (full1 full2 : List Str), σ[i]? = some (some (.ref bk)) ∧ σ[j]? = some (some (.str y1)) ∧ σ[k]? = some (some (.str y2)) ∧ ChAt H C bk y1 full1 ∧ ChAt H C bk y2 full2 ∧ RPairs H (full1.zip full2) Q
def tZipLL (ta : TA) : TE := fun σ H Q => ta σ H fun vs H1 => ∃ (l1 l2 : Addr) (xs ys : List Str), vs = [.ref l1, .ref l2] ∧ H1 l1 = some (.lst (xs.map V.str)) ∧ H1 l2 = some (.lst (ys.map V.str)) ∧ xs.length < 1000000 ∧ RPairs H1 (xs.zip ys) Q
def tZip0 (i j : Nat) : TE := fun σ H Q => ∃ (bk : Addr) (v : V), σ[i]? = some (some (.ref bk)) ∧ σ[j]? = some (some v) ∧ ∀ (H1 : Hp) (S : Addr), Same H H1 → H1 S = none → Q (.ref S) (upd H1 S (.lst []))
section
variable {X : Cx}
theorem GMd.lt {pins : List (Addr × Obj)} {H : Hp} {bk a L : Addr} {v : V} {g : Nat} {s s' : Shared} (M : GMd X pins H bk v a L g s s') : a < s'.heap.objs.size ∧ L < s'.heap.objs.size := by
  obtain ⟨⟨o, nm, qn, ho, _⟩, _, m, u, hn, _⟩ := M.slp
  exact ⟨Heap.lt_size ho, hn.lt⟩
theorem zip_len {α β : Type} {xs : List α} {ys : List β} (h : xs.length < 1000000) : (xs.zip ys).length < 1000000 := by
  rw [List.length_zip]
  exact Nat.lt_of_le_of_lt (Nat.min_le_left ..) h
theorem pe_zipCC {f C fG fH : Addr} {i j1 j2 k : Nat} {x y1 y2 : Str} {pl pz p p1 p2 pos p' p1' p2' pos' posz pos2 : Pos} (G : GenT X f) (B : Bl X.mg) (T : BkT X.K X.mg C fG fH) (hr : Room k X.A) (hx : X.N[i]? = some x) (vx : Vis X.env.scope x) (hy1 : X.N[j1]? = some y1) (vy1 : Vis X.env.scope y1) (hy2 : X.N[j2]? = some y2) (vy2 : Vis X.env.scope y2)
    (hgl : Gl X "list" := by rfl) (hgz : Gl X "zip" := by rfl) (hg : Gl X "chain" := by rfl) (hdx : (x == ("__debug__" : Str)) = false := by decide) (hcx : (x == ("__classdict__" : Str)) = false := by decide) (hd1 : (y1 == ("__debug__" : Str)) = false := by decide) (hc1 : (y1 == ("__classdict__" : Str)) = false := by decide)
    (hd2 : (y2 == ("__debug__" : Str)) = false := by decide) (hc2 : (y2 == ("__classdict__" : Str)) = false := by decide) :
    PE X (.Call (.Name "list" pl) [.Call (.Name "zip" pz) [.Call (.Name "chain" p) [.Name x p1, .Name y1 p2] [] pos, .Call (.Name "chain" p') [.Name x p1', .Name y2 p2'] [] pos'] [] posz] [] pos2) (tZipCC C i j1 j2) := by
  refine ⟨fun pins s σ H Q I ⟨bk, v1, v2, full1, full2, ex, e1, e2, ⟨lk1, hB1, hs1, hc1', hl1⟩, ⟨lk2, hB2, hs2, hc2', hl2⟩, q⟩ => ?_⟩
  refine wpAny_Call_Name_kw (ld_blt I hgl B.list (u := .type "list") (by decide +kernel) ?_ (by decide) (by decide))
  refine PyProof.Rows.callWith_type1 ?_ rfl rfl
  show wpAny _ _ (spliced ((false, eval (.Call (.Name "zip" pz) [.Call (.Name "chain" p) [.Name x p1, .Name y1 p2] [] pos, .Call (.Name "chain" p') [.Name x p1', .Name y2 p2'] [] pos'] [] posz) X.env) :: [])) _ _ s
  refine Calls.spliced_cons ?_
  refine wpAny_Call_Name_kw (ld_blt I hgz B.zip (u := .type "zip") PyProof.Rows.boot_zip ?_ (by decide) (by decide))
  refine PyProof.Rows.callWith_type1 ?_ rfl rfl
  show wpAny _ _ (spliced ((false, eval (.Call (.Name "chain" p) [.Name x p1, .Name y1 p2] [] pos) X.env) :: (false, eval (.Call (.Name "chain" p') [.Name x p1', .Name y2 p2'] [] pos') X.env) :: [])) _ _ s
  refine Calls.spliced_cons (mk_expr G I (by have := hr.dp; omega) hg hx vx hy1 vy1 ex e1 (fun a1 L1 g1 s1 I1 M1 => ?_) hdx hcx hd1 hc1)
  refine Calls.spliced_cons (mk_expr G I1 (by have := hr.dp; omega) hg hx vx hy2 vy2 ex e2 (fun a2 L2 g2 s2 I2 M2 => ?_) hdx hcx hd2 hc2)
  refine Calls.spliced_nil ?_
  obtain ⟨la1, lL1⟩ := M1.lt
  obtain ⟨la2, lL2⟩ := M2.lt
  have sz12 : s1.heap.objs.size ≤ s2.heap.objs.size := Nat.le_trans M2.la (Nat.le_of_lt la2)
  have U1 : SlpU bk L1 (.str v1) a1 g1 s2 := M1.slp.keep (fun b _ o e => M2.keep b o e) (by
    obtain ⟨_, ⟨f', cdv, hg1⟩, _⟩ := M1.slp
    rw [hg1]; exact M2.gens _ _ hg1)
  refine call_zip_gg U1.1 M2.slp.1 fun h' z TI TO Z => ?_
  refine Calls.spliced_nil ?_
  have hk : ∀ b o, s2.heap.get? b = some o → h'.get? b = some o := Z.keep
  have I3 : Inv X pins σ H { s2 with heap := h' } := I2.kept (t' := s2.toks) hk
  have U1' : SlpU bk L1 (.str v1) a1 g1 { s2 with heap := h' } := U1.keep (fun b _ o e => hk b o e) rfl
  have U2' : SlpU bk L2 (.str v2) a2 g2 { s2 with heap := h' } := M2.slp.keep (fun b _ o e => hk b o e) rfl
  have ne12 : g2 ≠ g1 := fun e => by
    obtain ⟨_, ⟨f', cdv, hg1⟩, _⟩ := M1.slp
    have := M2.gnew
    rw [e, hg1] at this
    cases this
  have dj : ∀ b ∈ [a1, L1], b ∉ [a2, L2] := fun b hb hb2 => by
    have h1 : b < s1.heap.objs.size := by
      rcases List.mem_cons.mp hb with rfl | hb
      · exact la1
      · rw [List.mem_singleton.mp hb]; exact lL1
    have h2 : s1.heap.objs.size ≤ b := by
      rcases List.mem_cons.mp hb2 with rfl | hb
      · exact M2.la
      · rw [List.mem_singleton.mp hb]; exact M2.lL
    exact Nat.lt_irrefl _ (Nat.lt_of_lt_of_le h1 h2)
  have hu : X.A.in1.in1.in1.units + 129 < cLine := by
    have := hr.un
    show X.A.units + 1 + 1 + 1 + 129 < cLine
    omega
  have hroom : X.A.in1.in1.in1.depth + 1 < recursionLimit := by
    have := hr.dp
    show X.A.depth + 1 < recursionLimit
    omega
  refine list_zip (G1 := [g1]) (G2 := [g2]) (H0 := H) I3 hr (src_chain T hr.hd hroom hu hl1) (src_chain T hr.hd hroom hu hl2) (fun g hg hg' => ne12 (by rw [← List.mem_singleton.mp hg, ← List.mem_singleton.mp hg'])) hB1 hB2 Z.zm (I2.fpOk Z.zn (I2.hok.fresh Z.zn)) (I2.fpOk Z.tn (I2.hok.fresh Z.tn)) (I2.fpOk Z.on (I2.hok.fresh Z.on))
    (U1'.slp M1.ne M1.ab hc1' hs1) (U2'.slp M2.ne M2.ab hc2' hs2) (fun b hb => ?_) (fun b hb => ?_) dj (fun b hb => ?_) (fun b hb => ?_) (zip_len hl1) fun Hc S ts s' I' h1 h2 sm hp => ⟨.ref S, _, I', rfl, q Hc S ts sm h1 hp⟩
  · rcases List.mem_cons.mp hb with rfl | hb
    · exact M1.fa
    · rw [List.mem_singleton.mp hb]; exact M1.fL
  · rcases List.mem_cons.mp hb with rfl | hb
    · exact M2.fa
    · rw [List.mem_singleton.mp hb]; exact M2.fL
  · rcases List.mem_cons.mp hb with rfl | hb
    · exact Nat.lt_of_lt_of_le la1 sz12
    · rw [List.mem_singleton.mp hb]; exact Nat.lt_of_lt_of_le lL1 sz12
  · rcases List.mem_cons.mp hb with rfl | hb
    · exact la2
    · rw [List.mem_singleton.mp hb]; exact lL2
theorem pe_zipLL {e1 e2 : Expr} {ta : TA} {k : Nat} {pl pz posz pos2 : Pos} (B : Bl X.mg) (hr : Room k X.A) (ha : PA X [e1, e2] ta) (hgl : Gl X "list" := by rfl) (hgz : Gl X "zip" := by rfl)
    (hs : starEach [e1, e2] X.env = (false, eval e1 X.env) :: starEach [e2] X.env := by rfl) (hpl : (backTo posz (starEach [e2] X.env)).any (·.1) = false := by rfl) :
    PE X (.Call (.Name "list" pl) [.Call (.Name "zip" pz) [e1, e2] [] posz] [] pos2) (tZipLL ta) := by
  refine ⟨fun pins s σ H Q I h => ?_⟩
  refine wpAny_Call_Name_kw (ld_blt I hgl B.list (u := .type "list") (by decide +kernel) ?_ (by decide) (by decide))
  refine PyProof.Rows.callWith_type1 ?_ rfl rfl
  show wpAny _ _ (spliced ((false, eval (.Call (.Name "zip" pz) [e1, e2] [] posz) X.env) :: [])) _ _ s
  refine Calls.spliced_cons ?_
  refine wpAny_Call_Name_kw (ld_blt I hgz B.zip (u := .type "zip") PyProof.Rows.boot_zip ?_ (by decide) (by decide))
  refine PyProof.Rows.callWith_type1 (thn (ha.run posz pins s σ H _ I h) fun us s1 ⟨vs, H1, I1, r1, l1, l2, xs, ys, ev, h1, h2, hl, q⟩ => ?_) hs hpl
  subst ev
  cases r1 with
  | cons r rr =>
    cases rr with
    | cons r' rr =>
      cases rr
      cases r
      cases r'
      obtain ⟨its, rv, pl1, _⟩ := I1.list (.of h1)
      obtain ⟨its2, rv2, pl2, _⟩ := I1.list (.of h2)
      refine call_zip_2 pl1.isList pl2.isList fun h' hz hTI hTO i1 i2 hsz hk => ?_
      refine Calls.spliced_nil ?_
      have I3 : Inv X pins σ H1 { s1 with heap := h' } := I1.kept (t' := s1.toks) hk
      have fp : ∀ {b : Addr}, s1.heap.objs.size ≤ b → FpOk X pins H1 b := fun hb => I1.fpOk hb (I1.hok.fresh hb)
      refine list_zip (a1 := s1.heap.objs.size) (a2 := s1.heap.objs.size + 1) (n0 := s1.heap.objs.size + 2) (G1 := []) (G2 := []) (H0 := H1) (r1 := xs) (r2 := ys) (fp1 := [s1.heap.objs.size]) (fp2 := [s1.heap.objs.size + 1]) (z := s1.heap.objs.size + 4) (TI := s1.heap.objs.size + 2) (TO := s1.heap.objs.size + 3) I3 hr (src_list (l := l1) (xs := xs) hr.hd) (src_list (l := l2) (xs := ys) hr.hd) (fun g hg => by simp at hg) h1 h2
        ⟨hz, hTI, hTO, by omega, Nat.le_refl _, by omega, fun q => absurd q (Nat.ne_of_lt (by omega)), fun q => absurd q (Nat.ne_of_lt (by omega)), fun q => absurd q (Nat.ne_of_lt (by omega))⟩ (fp (by omega)) (fp (by omega)) (fp (by omega))
        ⟨rfl, 0, i1, rfl⟩ ⟨rfl, 0, i2, rfl⟩ (fun b hb => ?_) (fun b hb => ?_) (fun b hb hb2 => ?_) (fun b hb => ?_) (fun b hb => ?_) (zip_len hl) fun Hc S ts s' I' h1 h2 sm hp => ⟨.ref S, _, I', rfl, q Hc S ts sm h1 hp⟩
      · rw [List.mem_singleton.mp hb]; exact fp (Nat.le_refl _)
      · rw [List.mem_singleton.mp hb]; exact fp (Nat.le_succ _)
      · have e1 := List.mem_singleton.mp hb
        have e2 := List.mem_singleton.mp hb2
        rw [e1] at e2
        exact absurd e2 (Nat.ne_of_lt (Nat.lt_succ_self _))
      · rw [List.mem_singleton.mp hb]; exact Nat.lt_of_lt_of_le (Nat.lt_succ_self _) (Nat.le_succ _)
      · rw [List.mem_singleton.mp hb]; exact Nat.lt_succ_self _
end
end K39
/-! Zv -/
set_option maxHeartbeats 4000000
/-! list(zip([], chain(x, y))): nothing is drawn -/
namespace K39
open PySem PySem.Spec PyProof.Rows L2 GenW

section
variable {X : Cx}
theorem pe_zip0 {f : Addr} {i j k kl : Nat} {x y : Str} {pl pz ple p p1 p2 pos posz pos2 : Pos} (G : GenT X f) (B : Bl X.mg) (hr : Room k X.A) (hx : X.N[i]? = some x) (vx : Vis X.env.scope x) (hy : X.N[j]? = some y) (vy : Vis X.env.scope y)
    (hgl : Gl X "list" := by rfl) (hgz : Gl X "zip" := by rfl) (hg : Gl X "chain" := by rfl) (hdx : (x == ("__debug__" : Str)) = false := by decide) (hcx : (x == ("__classdict__" : Str)) = false := by decide) (hdy : (y == ("__debug__" : Str)) = false := by decide) (hcy : (y == ("__classdict__" : Str)) = false := by decide) :
    PE X (.Call (.Name "list" pl) [.Call (.Name "zip" pz) [.List [] ple, .Call (.Name "chain" p) [.Name x p1, .Name y p2] [] pos] [] posz] [] pos2) (tZip0 i j) := by
  refine ⟨fun pins s σ H Q I ⟨bk, v, ex, ey, q⟩ => ?_⟩
  refine wpAny_Call_Name_kw (ld_blt I hgl B.list (u := .type "list") (by decide +kernel) ?_ (by decide) (by decide))
  refine PyProof.Rows.callWith_type1 ?_ rfl rfl
  show wpAny _ _ (spliced ((false, eval (.Call (.Name "zip" pz) [.List [] ple, .Call (.Name "chain" p) [.Name x p1, .Name y p2] [] pos] [] posz) X.env) :: [])) _ _ s
  refine Calls.spliced_cons ?_
  refine wpAny_Call_Name_kw (ld_blt I hgz B.zip (u := .type "zip") PyProof.Rows.boot_zip ?_ (by decide) (by decide))
  refine PyProof.Rows.callWith_type1 ?_ rfl rfl
  show wpAny _ _ (spliced ((false, eval (.List [] ple) X.env) :: (false, eval (.Call (.Name "chain" p) [.Name x p1, .Name y p2] [] pos) X.env) :: [])) _ _ s
  refine Calls.spliced_cons (thn ((pe_lst (X := X) (pos := ple) pa_nil).run pins s σ H (fun u H1 => ∃ q, u = .ref q ∧ H q = none ∧ H1 = upd H q (.lst [])) I ⟨Nat.zero_le _, fun q hq => ⟨q, rfl, hq, rfl⟩⟩) fun u s1 ⟨w1, H1, I1, rv, l, ew, hl, eH⟩ => ?_)
  subst ew eH
  obtain rfl : u = Value.ref l := rv
  refine Calls.spliced_cons (mk_expr G I1 (by have := hr.dp; omega) hg hx vx hy vy ex ey (fun a L g s2 I2 M => ?_) hdx hcx hdy hcy)
  refine Calls.spliced_nil ?_
  obtain ⟨its, rv, pl1, _⟩ := I2.list (a := l) (xs := []) (.of upd_same)
  have eits : its = [] := by cases rv; rfl
  subst eits
  refine call_zip_lg pl1.isList M.slp.1 fun h' z TI TO hit Z => ?_
  refine Calls.spliced_nil ?_
  have k0 : ∀ b o, s2.heap.get? b = some o → (zl0 s2.heap l).get? b = some o := fun b o e => Heap.get?_push_of_some _ e
  have hk : ∀ b o, s2.heap.get? b = some o → h'.get? b = some o := fun b o e => Z.keep b o (k0 b o e)
  have sz0 : (zl0 s2.heap l).objs.size = s2.heap.objs.size + 1 := Heap.size_push ..
  have zn : s2.heap.objs.size + 1 ≤ z := by rw [← sz0]; exact Z.zn
  have tn : s2.heap.objs.size + 1 ≤ TI := by rw [← sz0]; exact Z.tn
  have on : s2.heap.objs.size + 1 ≤ TO := by rw [← sz0]; exact Z.on
  have sm : Same H (upd H l (.lst [])) := fun b o e => by rw [upd_ne (ne_of_none e hl)]; exact e
  generalize hHe : upd H l (.lst []) = H1 at *
  have hlH : H1 l = some (.lst []) := by rw [← hHe]; exact upd_same
  have I3 : Inv X pins σ H1 { s2 with heap := h' } := I2.kept (t' := s2.toks) hk
  have fp : ∀ {b : Addr}, s2.heap.objs.size ≤ b → FpOk X pins H1 b := fun hb => I2.fpOk hb (I2.hok.fresh hb)
  have lz := Heap.lt_size Z.fz
  have lt := Heap.lt_size Z.ti
  have lo := Heap.lt_size Z.to
  have hit' : h'.IsListIter s2.heap.objs.size l 0 := hit.at fun o e => Z.keep _ o e
  have li : s2.heap.objs.size < h'.objs.size := by obtain ⟨o, ho, _⟩ := hit'; exact Heap.lt_size ho
  have fS : FpOk X pins H1 h'.objs.size := fp (Nat.le_of_lt li)
  refine list_callJ (T := "zip") (J := fun m acc s' => m = 0 ∧ acc = #[] ∧ (∃ h2 : Heap, s' = { s2 with heap := h2 } ∧ (∀ b o, h'.get? b = some o → h2.get? b = some o) ∧ h'.objs.size ≤ h2.objs.size ∧ ∃ c, h2.get? h'.objs.size = some (lO #[] c))) ⟨_, Z.fz, rfl⟩ (by rw [typeLookup_type, builtinLookup_eq_fast]; kernel_rfl) (by rw [typeLookup_type, builtinLookup_eq_fast]; kernel_rfl) (by decide) (by decide)
    (fun A Q E h' hk q => wpAny_pyIter_zip (hk _ _ Z.fz) q) (fun h2 c hk hS hz => ⟨0, rfl, rfl, h2, rfl, hk, hz, c, hS⟩) fun m acc s' ⟨e1, e2, h2, e3, hk2, hz2, c, hS⟩ => ?_
  subst e1 e2 e3
  have I4 : Inv X pins σ H1 { s2 with heap := h2 } := I3.kept (t' := s2.toks) hk2
  refine zip_first (hk2 _ _ Z.fz) (hk2 _ _ Z.ti) (hk2 _ _ Z.to) Z.tz Z.oz fun h3 hz3 sb3 => ?_
  have mv : ∀ {h4 : Heap} {own : List Addr}, (∀ b ∈ own, s2.heap.objs.size ≤ b) → (∀ b o, b ∉ own → h2.get? b = some o → h4.get? b = some o) → h2.objs.size ≤ h4.objs.size → Inv X pins σ H1 { s2 with heap := h4 } := fun {h4 own} ho hk hs =>
    inv_moved (g := 0) (own := own) I4 ⟨hk, hs, rfl, fun _ _ => rfl, id⟩ fun b hb => fp (ho b hb)
  have niz : s2.heap.objs.size ≠ z := Nat.ne_of_lt zn
  have it3 : h3.IsListIter s2.heap.objs.size l 0 := hit'.at fun o e => sb3.extBut _ _ niz (hk2 _ _ e)
  have I5 : Inv X pins σ H1 { s2 with heap := h3 } := mv (own := [z]) (fun b hb => by rw [List.mem_singleton.mp hb]; omega) (fun b o n e => sb3.extBut b o (fun q => n (by rw [q]; simp)) e) (Nat.le_of_eq sb3.1.symm)
  obtain ⟨its, rv5, pl5, _⟩ := I5.list (a := l) (xs := []) (.of hlH)
  have eits : its = [] := by cases rv5; rfl
  subst eits
  refine next_list_end (s := { s2 with heap := h3 }) hr.hd it3 pl5.isList rfl fun h4 k4 hs4 => ⟨k4 _ _ (Ne.symm niz) hz3, fun h5 hz5 sb5 => ?_⟩
  have n1 : h'.objs.size ≠ z := Nat.ne_of_gt lz
  have n2 : h'.objs.size ≠ s2.heap.objs.size := Nat.ne_of_gt li
  have I6 : Inv X pins σ H1 { s2 with heap := h5 } := mv (own := [z, s2.heap.objs.size]) (fun b hb => by
      rcases List.mem_cons.mp hb with rfl | hb
      · omega
      · rw [List.mem_singleton.mp hb]; exact Nat.le_refl _)
    (fun b o n e => sb5.extBut b o (fun q => n (by rw [q]; simp)) (k4 b o (fun q => n (by rw [q]; simp)) (sb3.extBut b o (fun q => n (by rw [q]; simp)) e))) (by rw [sb5.1]; exact Nat.le_trans (Nat.le_of_eq sb3.1.symm) hs4)
  have hS5 : h5.get? h'.objs.size = some (lO #[] c) := sb5.extBut _ _ n1 (k4 _ _ n2 (sb3.extBut _ _ n1 hS))
  exact ⟨.ref h'.objs.size, _, inv_track I6 fS hS5 .nil (Nat.zero_le _), rfl, q H1 _ sm fS.1⟩
end
end K39
/-! Fo -/
set_option maxHeartbeats 4000000
/-! for z in chain(x, y) -/
namespace K39
open PySem PySem.Spec PyProof.Rows L2 GenW

section
variable {X : Cx} {pins : List (Addr × Obj)} {σ : L2.St} {H : Hp} {s : Shared}
theorem inv_gens {G : Array GenState} (I : Inv X pins σ H s) (hb : AllBare G) : Inv X pins σ H { s with gens := G } :=
  I.call' (s' := { s with gens := G }) (ch := []) rfl (Un.kept fun _ _ e => e) (I.hok.kept fun _ _ e => e) hb fun b z => by simp at z
theorem inv_dulled (I : Inv X pins σ H s) : Inv X pins σ H (K39F.dulled s) := inv_gens I (K39F.dulled_bare I.bare)
/-- the loop's promise: the chain is told, one id at a turn -/
def tForCh (C : Addr) (i j : Nat) (g : TG) (tb : TS) : TS := fun D σ H => ∃ (bk : Addr) (y : Str) (full : List Str) (lk : Lk), σ[i]? = some (some (.ref bk)) ∧ σ[j]? = some (some (.str y)) ∧ BookF H C bk lk ∧ (lk y).isSome = true ∧ Ch lk [] (some y) full ∧ full.length < 1000000 ∧
  ∃ Pv : Nat → L2.St → Hp → Prop, Pv 0 σ H ∧ (∀ n σ' H', Pv n σ' H' → BookF H' C bk lk) ∧ (∀ n x σ' H', full[n]? = some x → Pv n σ' H' → g (.str x) σ' H' fun σ2 H2 => tb { D with nx := Pv (n + 1), ct := Pv (n + 1), bk := D.nx } σ2 H2) ∧ ∀ σ' H', Pv full.length σ' H' → D.nx σ' H'
theorem ps_forCh {f C fG fH : Addr} {i j k : Nat} {x y z : Str} {p p1 p2 pos pz pos2 : Pos} {body : List Stmt} {g : TG} {tb : TS} (G : GenT X f) (T : BkT X.K X.mg C fG fH) (hr : Room k X.A) (hx : X.N[i]? = some x) (vx : Vis X.env.scope x) (hy : X.N[j]? = some y) (vy : Vis X.env.scope y)
    (hg : PG X.nox (.Name z pz) g) (hb : PSs X.nox body tb) (hgl : Gl X "chain" := by rfl) (hdx : (x == ("__debug__" : Str)) = false := by decide) (hcx : (x == ("__classdict__" : Str)) = false := by decide) (hdy : (y == ("__debug__" : Str)) = false := by decide) (hcy : (y == ("__classdict__" : Str)) = false := by decide)
    (hs : ∀ x', foldedSetIterable (.Call (.Name "chain" p) [.Name x p1, .Name y p2] [] pos) X.env x' = pure x' := by intro _; rfl) :
    PS X (.For (.Name z pz) (.Call (.Name "chain" p) [.Name x p1, .Name y p2] [] pos) body [] pos2) (tForCh C i j g tb) := by
  refine ⟨fun pins s σ H D I ⟨bk, yv, full, lk, ex, ey, hB, hsm, hc, hl, Pv, p0, pB, pS, pD⟩ => ?_⟩
  refine wpAny_For (mk_expr G I (by have := hr.dp; omega) hgl hx vx hy vy ex ey (fun a L gn s1 I1 M => ?_) hdx hcx hdy hcy) hs
  have S0 : Slp X.prog X.w X.K X.mg X.base C bk L lk full a gn X.A [a, L] full s1 := M.slp.slp M.ne M.ab hc hsm
  refine wpAny_pyIter_gen S0.gen ?_
  have hu : X.A.units + 129 < cLine := by have := hr.un; omega
  have hd : X.A.depth + 1 < recursionLimit := by have := hr.dp; omega
  refine codeAny_forLoop_any (fun n s' => ∃ i σ' H' fp rem, n = rem.length ∧ rem = full.drop i ∧ i ≤ full.length ∧ Inv X pins σ' H' s' ∧ Slp X.prog X.w X.K X.mg X.base C bk L lk full a gn X.A fp rem s' ∧ (∀ b ∈ fp, FpOk X pins H' b) ∧ Pv i σ' H') ?_ full.length ⟨0, σ, H, [a, L], full, rfl, rfl, Nat.zero_le _, I1, S0, fun b hb => ?_, p0⟩
  · rintro n s3 ⟨i, σ3, H3, fp, rem, rfl, hrem, hile, I3, S3, f3, P3⟩
    refine wpAny_mono (NextOk.pyNext (E := fun _ _ => False) (turnG' I3 T (pB _ _ _ P3) hr.hd hd hu hl S3 f3 (fun s4 e I4 V => ?_) fun x ys t fp' s4 e I4 V S4 f4 n4 sn4 => ?_)) (fun r s4 h => h) fun _ _ z => z.elim
    · show wpAny _ _ (execs [] X.env) _ _ _
      refine wpAny_execs_nil ⟨σ3, H3, I4, pD _ _ ?_⟩
      have : full.length ≤ i := by
        rw [e] at hrem
        have := congrArg List.length hrem
        rw [List.length_drop] at this
        simp at this
        omega
      have : i = full.length := by omega
      rw [← this]
      exact P3
    · obtain ⟨SN, rfl⟩ := sn4
      have nLS : a ≠ L := S4.1
      obtain ⟨kk, ll, cc, pp, fs, hgs⟩ : ∃ k l c p fs, s4.gens[gn]? = some (.suspended k l c p fs false) := by
        obtain ⟨_, _, ⟨e1, _⟩ | ⟨_, _, _, S5⟩⟩ := id S4
        · simp at e1
        · obtain ⟨_, _, kk, l, c, p, fs, _, _, _, h3, _⟩ := S5
          exact ⟨kk, l, c, p, fs, h3⟩
      have hx0 : full[i]? = some x := by
        have := congrArg List.head? (hrem.symm.trans e)
        rw [List.head?_drop] at this
        exact this
      have hys : ys = full.drop (i + 1) := by
        have := congrArg List.tail (hrem.symm.trans e)
        rw [List.tail_drop] at this
        exact this.symm
      have hlt : i < full.length := (List.getElem?_eq_some_iff.mp hx0).1
      show wpAny _ _ (letOwnedTupleGo (.Name z pz) (.ref a) (.str x t)) _ _ _
      refine wpAny_pure ?_
      have hobj : ∀ b ∈ [a, L, SN], ∃ o, s4.heap.get? b = some o ∧ ∀ v, o.data ≠ .cell v := S4.obj
      have I5 : Inv X (pins ++ pinsAt [a, L, SN] s4.heap) σ3 H3 s4 := I4.pinned f4 hobj
      refine wpAny_mono (K39F.frame (hg.run (pins ++ pinsAt [a, L, SN] s4.heap) (K39F.dulled s4) σ3 H3 (.str x) (.str x t) _ ((inv_dulled I5).wish _) ⟨t, rfl⟩ (pS i x σ3 H3 hx0 P3))) (fun _ s5 h5 => ?_) fun e' s5 h5 => ?_
      · obtain ⟨s0, ⟨σ6, H6, I6, q6⟩, es, hb5, hg5⟩ := h5
        have I6' : Inv X (pins ++ pinsAt [a, L, SN] s4.heap) σ6 H6 s5 := by
          rw [es]
          exact inv_gens (Inv.unwish (E := fun _ _ => False) I6) (hb5 I6.bare)
        refine wpAny_mono (K39F.frame (hb.run (pins ++ pinsAt [a, L, SN] s4.heap) (K39F.dulled s5) σ6 H6 _ ((inv_dulled I6').wish _) q6)) (fun fl s7 h7 => ?_) fun e' s7 h7 => ?_
        · obtain ⟨s0', q7, es', hb7, hg7⟩ := h7
          have back : ∀ {σ7 : L2.St} {H7 : Hp}, Inv X.nox (pins ++ pinsAt [a, L, SN] s4.heap) σ7 H7 s0' → Inv X (pins ++ pinsAt [a, L, SN] s4.heap) σ7 H7 s7 := fun {σ7 H7} I7 => by
            rw [es']
            exact inv_gens (Inv.unwish (E := fun _ _ => False) I7) (hb7 I7.bare)
          have again : ∀ {σ7 : L2.St} {H7 : Hp}, Inv X (pins ++ pinsAt [a, L, SN] s4.heap) σ7 H7 s7 → Pv (i + 1) σ7 H7 → ∃ m, m < rem.length ∧ ∃ i σ' H' fp rem, m = rem.length ∧ rem = full.drop i ∧ i ≤ full.length ∧ Inv X pins σ' H' s7 ∧ Slp X.prog X.w X.K X.mg X.base C bk L lk full a gn X.A fp rem s7 ∧ (∀ b ∈ fp, FpOk X pins H' b) ∧ Pv i σ' H' := fun {σ7 H7} I7 P7 => by
            have pin : ∀ b ∈ [a, L, SN], ∀ o, s4.heap.get? b = some o → s7.heap.get? b = some o ∧ H7 b = none := fun b hb o eo => by
              have q := I7.pin (b, o) (List.mem_append_right _ (List.mem_append_right _ (mem_pinsAt hb eo)))
              exact ⟨q.1, q.2.1⟩
            refine ⟨ys.length, by rw [e]; simp, i + 1, σ7, H7, [a, L, SN], ys, rfl, hys, hlt, I7.unpinned, S4.keep (fun b hb o eo => (pin b hb o eo).1) ?_, fun b hb => ?_, P7⟩
            · rw [hgs]
              exact hg7 _ _ _ _ _ _ _ (hg5 _ _ _ _ _ _ _ hgs)
            · obtain ⟨o, eo, _⟩ := hobj b hb
              exact FpOk.keep (f4 b hb) (pin b hb o eo).2
          cases fl with
          | next => obtain ⟨σ7, H7, I7, n7⟩ := q7; exact again (back I7) n7
          | cont => obtain ⟨σ7, H7, I7, n7⟩ := q7; exact again (back I7) n7
          | brk => obtain ⟨σ7, H7, I7, n7⟩ := q7; exact ⟨σ7, H7, (back I7).unpinned, n7⟩
          | ret v => obtain ⟨x7, σ7, H7, I7, r7, n7⟩ := q7; exact ⟨x7, σ7, H7, (back I7).unpinned, r7, n7⟩
        · obtain ⟨_, z, _⟩ := h7
          exact z.elim
      · obtain ⟨_, z, _⟩ := h5
        exact z.elim
  · rcases List.mem_cons.mp hb with rfl | hb
    · exact M.fa
    · rw [List.mem_singleton.mp hb]; exact M.fL
end
end K39
/-! Fp -/
set_option maxHeartbeats 4000000
/-! for z in chain(x, y): there is no such item -/
namespace K39
open PySem PySem.Spec PyProof.Rows L2 GenW

section
variable {X : Cx}
theorem ps_or {st : Stmt} {t1 t2 : TS} (h1 : PS X st t1) (h2 : PS X st t2) : PS X st (fun D σ H => t1 D σ H ∨ t2 D σ H) :=
  ⟨fun pins s σ H D I h => h.elim (fun q => h1.run pins s σ H D I q) fun q => h2.run pins s σ H D I q⟩
def tForChR (K : PySem.W.Frag) (C N : Addr) (E : XK) (i j : Nat) : TS := fun D σ H => ∃ bk v, σ[i]? = some (some (.ref bk)) ∧ σ[j]? = some (some v) ∧ NoAt K H C N bk v E
theorem ps_forChR {f C fG fH N fN : Addr} {i j : Nat} {x y z : Str} {p p1 p2 pos pz pos2 : Pos} {body : List Stmt} {E : XK} (G : GenT X f) (B : Bl X.mg) (T : BkT X.K X.mg C fG fH) (TN : NiTxt X.prog X.K X.mg N fN) (hr : Room 5 X.A) (hp : PassesOwn (model X.prog X.w) X.A X.env X.xe) (hE : Passes (L2.CX X.prog X.w) X E) (hns : NoStop X.K E)
    (hx : X.N[i]? = some x) (vx : Vis X.env.scope x) (hy : X.N[j]? = some y) (vy : Vis X.env.scope y)
    (hgl : Gl X "chain" := by rfl) (hdx : (x == ("__debug__" : Str)) = false := by decide) (hcx : (x == ("__classdict__" : Str)) = false := by decide) (hdy : (y == ("__debug__" : Str)) = false := by decide) (hcy : (y == ("__classdict__" : Str)) = false := by decide)
    (hs : ∀ x', foldedSetIterable (.Call (.Name "chain" p) [.Name x p1, .Name y p2] [] pos) X.env x' = pure x' := by intro _; rfl) :
    PS X (.For (.Name z pz) (.Call (.Name "chain" p) [.Name x p1, .Name y p2] [] pos) body [] pos2) (tForChR X.K C N E i j) := by
  refine ⟨fun pins s σ H D I ⟨bk, v, ex, ey, dx, di, fs, kvs, ob, hm, q⟩ => ?_⟩
  refine wpAny_For (mk_exprR G B T TN I (hr.mono (by decide)) hgl hx vx hy vy ex ey ob hm q (fun u s1 I1 M => ?_) hdx hcx hdy hcy) hs
  obtain ⟨a, g, c, eu, h1, h2, hgn, hgs, os, hb, hl, hk, wake⟩ := id M
  subst eu
  refine wpAny_pyIter_gen hgn ?_
  refine codeAny_forLoop_any (fun n s' => s' = s1) ?_ 0 rfl
  rintro n s3 rfl
  exact wpAny_passesOwn hp (NextOk.pyNext (turnR (k := 4) I M hE hns hr I.ok.frames (fun _ _ e => e) rfl rfl))
end
end K39
/-! Dt -/
set_option maxHeartbeats 4000000
/-! data: ids, lists of them, pairs, items -/
namespace K39
open PySem PySem.Spec PyProof.Rows L2
open PySem.PyData (strOk)

theorem sgn_lt {c : Nat} (h : Sgn c) : c < 128 := by
  rcases h with h | h
  · have h' : 97 ≤ c ∧ c ≤ 122 := h
    omega
  · omega
def Ok0 (x : Str) : Prop := strOk x = true
theorem strOk_of {x : Str} (h : ∀ c ∈ x.cps.toList, c < 128) : strOk x = true := by
  unfold strOk
  rw [← Array.all_toList, List.all_eq_true]
  exact fun c hc => decide_eq_true (by have := h c hc; omega)
theorem IdOk.ok {x : Str} (h : IdOk x) : strOk x = true := strOk_of fun c hc => sgn_lt (h.2.2 c hc)
theorem IdOk.ne {x : Str} (h : IdOk x) : x ≠ "" := fun e => by
  obtain ⟨_, ⟨c, r, hr, _⟩, _⟩ := h
  rw [e] at hr
  cases hr
abbrev dS (xs : List Str) : List PyData := xs.map .str
abbrev dP (ps : List (Str × Str)) : List PyData := ps.map fun p => .tuple [.str p.1, .str p.2]
theorem eqv_str {x y : Str} : PyData.eqv (.str x) (.str y) = decide (x = y) := by
  unfold PyData.eqv
  rw [Bool.eq_iff_iff]; simp
theorem eqv_strs : ∀ {xs ys : List Str}, PyData.eqvAll (dS xs) (dS ys) = decide (xs = ys)
  | [], [] => by simp [PyData.eqvAll]
  | [], _ :: _ => by simp [PyData.eqvAll]
  | _ :: _, [] => by simp [PyData.eqvAll]
  | x :: xs, y :: ys => by
    show PyData.eqvAll (.str x :: dS xs) (.str y :: dS ys) = _
    unfold PyData.eqvAll
    rw [eqv_str, eqv_strs, Bool.eq_iff_iff]
    simp
theorem eqv_pair {p q : Str × Str} : PyData.eqv (.tuple [.str p.1, .str p.2]) (.tuple [.str q.1, .str q.2]) = decide (p = q) := by
  have e := eqv_strs (xs := [p.1, p.2]) (ys := [q.1, q.2])
  show PyData.eqvAll (dS [p.1, p.2]) (dS [q.1, q.2]) = _
  rw [e, Bool.eq_iff_iff]
  obtain ⟨a, b⟩ := p
  obtain ⟨c, d⟩ := q
  simp
theorem eqv_pairs : ∀ {xs ys : List (Str × Str)}, PyData.eqvAll (dP xs) (dP ys) = decide (xs = ys)
  | [], [] => by simp [PyData.eqvAll]
  | [], _ :: _ => by simp [PyData.eqvAll]
  | _ :: _, [] => by simp [PyData.eqvAll]
  | x :: xs, y :: ys => by
    show PyData.eqvAll (.tuple [.str x.1, .str x.2] :: dP xs) (.tuple [.str y.1, .str y.2] :: dP ys) = _
    unfold PyData.eqvAll
    rw [eqv_pair, eqv_pairs, Bool.eq_iff_iff]
    simp
theorem lay_strs : ∀ {xs : List Str}, (∀ x ∈ xs, strOk x = true) → PyData.canLayAll0 (dS xs) = true
  | [], _ => by simp [PyData.canLayAll0]
  | x :: xs, h => by
    show PyData.canLayAll0 (.str x :: dS xs) = true
    unfold PyData.canLayAll0
    rw [lay_strs fun z hz => h z (List.mem_cons_of_mem _ hz), Bool.and_true]
    unfold PyData.canLay0
    exact h x List.mem_cons_self
theorem dep_strs : ∀ {xs : List Str}, PyData.depthAll (dS xs) = 0
  | [] => by simp [PyData.depthAll]
  | x :: xs => by
    show PyData.depthAll (.str x :: dS xs) = 0
    unfold PyData.depthAll
    rw [dep_strs]
    simp [PyData.depth]
theorem sh_strs {xs : List Str} (h : ∀ x ∈ xs, strOk x = true) : SeqAt.shaped (.list (dS xs)) = true := by
  unfold SeqAt.shaped
  rw [Bool.and_eq_true]
  refine ⟨by unfold PyData.canLay0; exact lay_strs h, decide_eq_true ?_⟩
  unfold PyData.depth
  rw [dep_strs]
  decide
theorem lay_pairs : ∀ {ps : List (Str × Str)}, (∀ p ∈ ps, strOk p.1 = true ∧ strOk p.2 = true) → PyData.canLayAll0 (dP ps) = true
  | [], _ => by simp [PyData.canLayAll0]
  | p :: ps, h => by
    show PyData.canLayAll0 (.tuple [.str p.1, .str p.2] :: dP ps) = true
    unfold PyData.canLayAll0
    rw [lay_pairs fun z hz => h z (List.mem_cons_of_mem _ hz), Bool.and_true]
    unfold PyData.canLay0
    exact lay_strs (xs := [p.1, p.2]) fun x hx => by
      rcases List.mem_cons.mp hx with rfl | hx
      · exact (h p List.mem_cons_self).1
      · rw [List.mem_singleton.mp hx]; exact (h p List.mem_cons_self).2
theorem dep_pairs : ∀ {ps : List (Str × Str)}, PyData.depthAll (dP ps) ≤ 1
  | [] => by simp [PyData.depthAll]
  | p :: ps => by
    show PyData.depthAll (.tuple [.str p.1, .str p.2] :: dP ps) ≤ 1
    unfold PyData.depthAll
    have e : PyData.depth (.tuple [.str p.1, .str p.2]) = 1 := by
      unfold PyData.depth
      rw [show PyData.depthAll [.str p.1, .str p.2] = 0 from dep_strs (xs := [p.1, p.2])]
    rw [e]
    exact Nat.max_le.mpr ⟨Nat.le_refl _, dep_pairs⟩
theorem sh_pairs {ps : List (Str × Str)} (h : ∀ p ∈ ps, strOk p.1 = true ∧ strOk p.2 = true) : SeqAt.shaped (.list (dP ps)) = true := by
  unfold SeqAt.shaped
  rw [Bool.and_eq_true]
  refine ⟨by unfold PyData.canLay0; exact lay_pairs h, decide_eq_true ?_⟩
  unfold PyData.depth
  have := dep_pairs (ps := ps)
  omega
theorem dp_all {K : PySem.W.Frag} {H : Hp} : ∀ {xs : List Str}, DpAll K H (xs.map V.str) (dS xs)
  | [] => .nil
  | x :: xs => .cons (.str x) dp_all
theorem dp_strs {K : PySem.W.Frag} {H : Hp} {l : Addr} {xs : List Str} (h : H l = some (.lst (xs.map V.str))) : Dp K H (.ref l) (.list (dS xs)) := .lst (.of h) dp_all
theorem dp_pairs {K : PySem.W.Frag} {H : Hp} : ∀ {ts : List Addr} {ps : List (Str × Str)}, Paired (fun t p => H t = some (.tup [.str p.1, .str p.2])) ts ps → DpAll K H (ts.map V.ref) (dP ps)
  | _, _, .nil => .nil
  | _, _, .cons h t => .cons (.tup (.of h) (.cons (.str _) (.cons (.str _) .nil))) (dp_pairs t)
/-- an item's data -/
def dI (t : Itm) : PyData := .tuple [.str t.key, .str t.kind, if t.kind = "chapter" then .tuple [] else .str "", match t.goal with | none => .none | some g => .str g]
theorem dp_item {K : PySem.W.Frag} {H : Hp} {a : Addr} {t : Itm} (h : ItemAt H a t) : Dp K H (.ref a) (dI t) := by
  obtain ⟨c, h1, h2⟩ := h
  refine .tup (.of h1) (.cons (.str _) (.cons (.str _) (.cons ?_ (.cons ?_ .nil))))
  · rcases h2 with ⟨e, _, e2, rfl, h3⟩ | ⟨e, rfl⟩
    · rw [if_pos e]; exact .tup (.of h3) .nil
    · rw [if_neg e]; exact .str _
  · cases t.goal with
    | none => exact .non
    | some g => exact .str g
theorem dp_items {K : PySem.W.Frag} {H : Hp} : ∀ {as : List Addr} {its : List Itm}, Paired (ItemAt H) as its → DpAll K H (as.map V.ref) (its.map dI)
  | _, _, .nil => .nil
  | _, _, .cons h t => .cons (dp_item h) (dp_items t)
theorem kinds_ok : ∀ k ∈ Kinds, strOk k = true := by decide +kernel
theorem lay_item {t : Itm} (h : ItmOk t) : (dI t).canLay0 = true ∧ (dI t).depth ≤ 2 := by
  obtain ⟨h1, h2, h3⟩ := h
  have k1 : strOk t.key = true := h1.ok
  have k2 : strOk t.kind = true := kinds_ok _ h2
  have k3 : strOk "" = true := by decide +kernel
  unfold dI
  cases hg : t.goal with
  | none => split <;> refine ⟨?_, ?_⟩ <;> simp [PyData.canLay0, PyData.canLayAll0, PyData.depth, PyData.depthAll, k1, k2, k3]
  | some g =>
    have k4 : strOk g = true := (h3 g hg).ok
    split <;> refine ⟨?_, ?_⟩ <;> simp [PyData.canLay0, PyData.canLayAll0, PyData.depth, PyData.depthAll, k1, k2, k3, k4]
theorem lay_items : ∀ {its : List Itm}, (∀ t ∈ its, ItmOk t) → PyData.canLayAll0 (its.map dI) = true ∧ PyData.depthAll (its.map dI) ≤ 2
  | [], _ => by simp [PyData.canLayAll0, PyData.depthAll]
  | t :: its, h => by
    obtain ⟨a, b⟩ := lay_items fun z hz => h z (List.mem_cons_of_mem _ hz)
    obtain ⟨c, d⟩ := lay_item (h t List.mem_cons_self)
    refine ⟨?_, ?_⟩
    · show PyData.canLayAll0 (dI t :: its.map dI) = true
      unfold PyData.canLayAll0
      rw [c, a]
      rfl
    · show PyData.depthAll (dI t :: its.map dI) ≤ 2
      unfold PyData.depthAll
      exact Nat.max_le.mpr ⟨d, b⟩
theorem sh_items {its : List Itm} (h : ∀ t ∈ its, ItmOk t) : SeqAt.shaped (.list (its.map dI)) = true := by
  obtain ⟨a, b⟩ := lay_items h
  unfold SeqAt.shaped
  rw [Bool.and_eq_true]
  refine ⟨by unfold PyData.canLay0; exact a, decide_eq_true ?_⟩
  unfold PyData.depth
  omega
theorem sh_nil : SeqAt.shaped (.list []) = true := by decide +kernel
theorem eqv_nil {ds : List PyData} : PyData.eqv (.list ds) (.list []) = ds.isEmpty := by
  unfold PyData.eqv
  cases ds <;> simp [PyData.eqvAll]
end K39
/-! M1 -/
set_option maxHeartbeats 4000000
/-! the first item with an id -/
namespace K39
open PySem PySem.Spec PyProof.Rows L2

abbrev findI (its : List Itm) (x : Str) : Option Itm := its.find? fun t => decide (t.key = x)
def spFirst : Sp := fun vs H Q _ => ∃ r as its x, vs = [.ref r, .str x] ∧ RowsAt H r as its ∧ its.length ≤ 100 ∧ (∀ t ∈ its, ItmOk t) ∧ ∀ H', Same H H' → match findI its x with
  | some t => ∀ u, ItemAt H' u t → Q (.ref u) H'
  | none => Q .non H'
theorem ixT {K : PySem.W.Frag} {Y : Cx} (h : Y.K = K := by rfl) : IxR Y (rIxT K) := by rw [← h]; exact ix_tup
theorem ixL {K : PySem.W.Frag} {Y : Cx} (h : Y.K = K := by rfl) : IxR Y (rIxL K) := by rw [← h]; exact ix_list
section
variable {P : Program} {w : World} {K : PySem.W.Frag} {mg : Str → Option Value} {base : Heap}
abbrev nFirst : List Str := ["_law_rows", "_law_key", "_law_some", "_law_item"]
theorem scFirst : FnScope nFirst ["_law_rows", "_law_key"] (defScope sFirst) := ⟨rfl, rfl, rfl, by decide +kernel, rfl, by decide +kernel, by decide +kernel⟩
theorem ok_first (B : Bl mg) (F : FnA K mg "_law_first" sFirst) : C8.Cal P w K mg base 1 "_law_first" spFirst [] := by
  refine F.cal scFirst (fun _ _ _ _ _ _ us hl => match us, hl with | [_, _], _ => rfl) (fun vs H Q E h => by obtain ⟨r, as, its, x, rfl, _⟩ := h; rfl) fun f cdv A outer s H vs Q E hr h => ?_
  have hu : (cxOf CX0 P w K mg base nFirst "_law_first" (defScope sFirst) f cdv A outer s H E).nox.A.units + 64 < cLine := by
    have := hr.un
    show (A.deeper _).units + 64 < cLine
    omega
  refine ⟨_, pss_cons (ps_if (pt_not (pt_val (pe_isi B (pv 1) B.str bS))) (pss_one (ps_ret pe_non)) pss_nil)
    (pss_cons (ps_setLc (i := 2) (own := [("_law_item", 3)]) (g := gName 3) rfl scFirst.nd rfl rfl (sw_true rfl rfl rfl (by decide +kernel)) (pi_tup (pv 0)) (blkOk_by (own := [("_law_item", 3)]) (N := nFirst) (sc := defScope sFirst) (by decide +kernel))
        (fun _ _ _ _ _ => pg_name (i := 3) scFirst.nd rfl (Or.inl rfl)) (fun _ _ _ _ _ => pts_one (pt_cmpR op_eq (pe_ix (ixT (K := K)) (pv 3) pe_int (fun _ _ => rfl)) (pv 1) (nomark _))) (fun _ _ _ _ _ => pv 3))
    (pss_one (ps_ret (pe_ifExp (pt_cmpR (op_neD hu) (pv 2) (pe_lst pa_nil) (nomark _)) (pe_ix ix_list (pv 2) pe_int (fun _ _ => rfl)) pe_non)))), ?_⟩
  obtain ⟨r, as, its, x, rfl, hR, hl, hok, k⟩ := h
  refine ⟨_, rfl, _, _, _, _, true, rfl, .ty "str", .base (.str _), kit_s', true, rfl, ?_⟩
  have hlen : as.length = its.length := Paired.length hR.2
  refine ⟨_, rfl, r, rfl, ⟨_, .of hR.1⟩, fun D hD => ?_⟩
  have s0 := same_new (o := .lst []) hD
  refine lc_tup (K := K) (a := r) (xs := as.map V.ref) (fun i H' => Same H H' ∧ ∃ bs, H' D = some (.lst (bs.map V.ref)) ∧ Paired (ItemAt H') bs ((its.take i).filter fun t => decide (t.key = x))) ⟨s0, [], upd_same, .nil⟩ (fun i H' hi h => .of (h.1 _ _ hR.1)) ?_ ?_
  · rintro i z H1 hi ⟨sm, bs, hDb, hp⟩
    rw [List.getElem?_map] at hi
    obtain ⟨u, hu', rfl⟩ := Option.map_eq_some_iff.mp hi
    obtain ⟨t, ht, hat⟩ := paired_at hR.2 hu'
    obtain ⟨c, hc, _⟩ := hat.keep (.same sm)
    have hil : i < its.length := (List.getElem?_eq_some_iff.mp ht).1
    have hbl : bs.length ≤ 100 := by
      rw [Paired.length hp]
      exact Nat.le_trans (List.length_filter_le ..) (by rw [List.length_take]; omega)
    refine ⟨rfl, _, rfl, u, _, 0, _, rfl, rfl, .of hc, atI_nat (j := 0) rfl, _, rfl, rfl, ?_⟩
    have tkf : (its.take (i + 1)).filter (fun t => decide (t.key = x)) = (its.take i).filter (fun t => decide (t.key = x)) ++ if t.key = x then [t] else [] := by
      rw [take_succ_of ht, List.filter_append]
      by_cases h : t.key = x
      · simp [h]
      · simp [h]
    refine ⟨_, rfl, ite2 (fun e => ?_) fun e => ?_⟩
    · have ek : t.key = x := by
        have := of_decide_eq_true e
        injection this
      have tk : TK H1 (upd H1 D (.lst (bs.map V.ref ++ [.ref u]))) := TK.lst hDb
      refine ⟨_, rfl, _, hDb, by rw [List.length_map]; exact small1000 (by omega), fun b o eb => ?_, bs ++ [u], ?_, ?_⟩
      · rw [upd_ne (ne_of_none eb hD)]
        exact sm b o eb
      · rw [upd_same]
        simp
      · rw [tkf, if_pos ek]
        exact paired_snoc (hat.keep ((TK.same sm).trans tk)) (items_keep tk hp)
    · have ek : t.key ≠ x := fun q => e (by rw [q]; exact decide_eq_true rfl)
      refine ⟨sm, bs, hDb, ?_⟩
      rw [tkf, if_neg ek, List.append_nil]
      exact hp
  · rintro H1 ⟨sm, bs, hDb, hp⟩
    rw [List.length_map, hlen, List.take_length] at hp
    have hbl : bs.length ≤ 100 := by
      rw [Paired.length hp]
      exact Nat.le_trans (List.length_filter_le ..) hl
    refine ⟨_, rfl, Nat.zero_le _, fun e he => ?_⟩
    have s1 := same_new (o := .lst []) he
    have hf : findI its x = (its.filter fun t => decide (t.key = x)).head? := by rw [List.head?_filter]
    have dD : Dp K (upd H1 e (.lst [])) (.ref D) (.list ((its.filter fun t => decide (t.key = x)).map dI)) := .lst (.of (s1 _ _ hDb)) (dp_items (items_keep (.same s1) hp))
    refine ⟨_, _, dD, .lst (.of upd_same) .nil, sh_items fun t ht => hok t (List.mem_filter.mp ht).1, sh_nil, _, rfl, ?_⟩
    rw [eqv_nil]
    have kk := k (upd H1 e (.lst [])) (sm.trans s1)
    rw [hf] at kk
    generalize (its.filter fun t => decide (t.key = x)) = fl at hp kk
    cases hp with
    | nil => exact kk
    | cons h0 hrest =>
      refine ⟨_, rfl, D, _, 0, _, rfl, rfl, .of (s1 _ _ hDb), atI_nat (j := 0) rfl, ?_⟩
      exact kk _ (h0.keep (.same s1))
end
end K39
/-! M2 -/
set_option maxHeartbeats 4000000
/-! the next id -/
namespace K39
open PySem PySem.Spec PyProof.Rows L2

def nxI (its : List Itm) (x : Str) : Str := match findI its x with
  | some t => match t.goal with
    | some g => if (findI its g).isSome then g else ""
    | none => ""
  | none => ""
def spNextId : Sp := fun vs H Q _ => ∃ r as its x, vs = [.ref r, .str x] ∧ RowsAt H r as its ∧ its.length ≤ 100 ∧ (∀ t ∈ its, ItmOk t) ∧ (findI its x).isSome = true ∧ ∀ H', Same H H' → Q (.str (nxI its x)) H'
theorem findI_mem {its : List Itm} {x : Str} {t : Itm} (h : findI its x = some t) : t ∈ its ∧ t.key = x := ⟨List.mem_of_find?_eq_some h, by simpa using List.find?_some h⟩
section
variable {P : Program} {w : World} {K : PySem.W.Frag} {mg : Str → Option Value} {base : Heap}
theorem find_at {H : Hp} {as : List Addr} {its : List Itm} {x : Str} {t : Itm} (h : Paired (ItemAt H) as its) (e : findI its x = some t) : ∃ u, ItemAt H u t := by
  obtain ⟨i, hi, hi2⟩ := List.getElem_of_mem (findI_mem e).1
  have : ∀ {as : List Addr} {its : List Itm} (i : Nat) (hi : i < its.length), Paired (ItemAt H) as its → ∃ u, ItemAt H u its[i] := by
    intro as its i hi h
    induction h generalizing i with
    | nil => exact absurd hi (Nat.not_lt_zero i)
    | cons r _ ih =>
      cases i with
      | zero => exact ⟨_, r⟩
      | succ j => exact ih j (Nat.lt_of_succ_lt_succ hi)
  obtain ⟨u, hu⟩ := this i hi h
  rw [hi2] at hu
  exact ⟨u, hu⟩
abbrev nNextId : List Str := ["_law_rows", "_law_key", "_law_goal"]
theorem scNextId : FnScope nNextId ["_law_rows", "_law_key"] (defScope sNextId) := ⟨rfl, rfl, rfl, by decide +kernel, rfl, by decide +kernel, by decide +kernel⟩
theorem ok_nextId (F : FnA K mg "_law_next_id" sNextId) (N : C8.Cal P w K mg base 1 "_law_first" spFirst []) : C8.Cal P w K mg base 2 "_law_next_id" spNextId [] := by
  refine F.cal scNextId (fun _ _ _ _ _ _ us hl => match us, hl with | [_, _], _ => rfl) (fun vs H Q E h => by obtain ⟨r, as, its, x, rfl, _⟩ := h; rfl) fun f cdv A outer s H vs Q E hr h => ?_
  refine ⟨_, pss_cons (ps_set (i := 2) scNextId.nd rfl (Or.inl rfl) (pe_ix ix_tup (C8.pe_c N hr (by decide) (by rfl) (pa_cons (pv 0) (pa_cons (pv 1) pa_nil))) pe_int (fun _ _ => rfl)))
    (pss_one (ps_ret (pe_ifExp (PW.pt (pw_and (pt_cmp (pc_notN (pv 2))) (pw_and1 (pt_cmp (pc_notN (C8.pe_c N hr (by decide) (by rfl) (pa_cons (pv 0) (pa_cons (pv 2) pa_nil)))))))) (pv 2) pe_str))), ?_⟩
  obtain ⟨r, as, its, x, rfl, hR, hl, hok, hs, k⟩ := h
  obtain ⟨t, ht⟩ := Option.isSome_iff_exists.mp hs
  refine ⟨_, rfl, _, rfl, r, as, its, x, rfl, hR, hl, hok, fun H1 s1 => ?_⟩
  rw [ht]
  intro u hat
  obtain ⟨c, hc, _⟩ := id hat
  refine ⟨u, _, 3, _, rfl, rfl, .of hc, atI_nat (j := 3) rfl, ?_⟩
  unfold nxI at k
  rw [ht] at k
  cases hg : t.goal with
  | none =>
    simp only [hg] at k
    exact ⟨_, rfl, _, rfl, k _ s1⟩
  | some g =>
    simp only [hg] at k
    refine ⟨_, rfl, _, rfl, ?_⟩
    refine ⟨_, rfl, _, rfl, r, as, its, g, rfl, hR.keep (.same s1), hl, hok, fun H2 s2 => ?_⟩
    have kk := k _ (s1.trans s2)
    cases e : findI its g with
    | none =>
      rw [e] at kk
      exact ⟨_, rfl, kk⟩
    | some t2 =>
      rw [e] at kk
      exact fun u2 _ => ⟨_, rfl, _, rfl, kk⟩
end
end K39
/-! St -/
set_option maxHeartbeats 3200000
/-! len(set(xs)), xs a list of ids that are all different -/
namespace K39
open PySem PySem.Spec PyProof.Rows L2

section
variable {prog : Program} {w : World} {A : Around} {R : Result → Shared → Prop} {I : Addr} {fp wr : List Addr} {G : Array GenState → Array GenState → Prop} {n : Nat} {P : Nat → Value → Prop} {St : Nat → Shared → Prop}
theorem take_any_snoc {xs : List Str} {i : Nat} {x : Str} (h : xs[i]? = some x) (k : Str) : ((xs.take (i + 1)).any (· == k)) = ((xs.take i).any (· == k) || decide (k = x)) := by
  rw [take_succ_of h, List.any_append]
  congr 1
  rw [List.any_cons, List.any_nil, Bool.or_false, Bool.eq_iff_iff, beq_iff_eq, decide_eq_true_iff]
  exact eq_comm
theorem fresh_at {xs : List Str} (hn : xs.Nodup) {i : Nat} {x : Str} (h : xs[i]? = some x) : ((xs.take i).any (· == x)) = false := by
  rw [Bool.eq_false_iff]
  intro q
  obtain ⟨y, hy, e⟩ := List.any_eq_true.mp q
  have e' : y = x := eq_of_beq e
  subst e'
  obtain ⟨j, hj⟩ := List.mem_iff_getElem?.mp hy
  rw [List.getElem?_take] at hj
  by_cases hji : j < i
  · rw [if_pos hji] at hj
    obtain ⟨hjl, ej⟩ := List.getElem?_eq_some_iff.mp hj
    obtain ⟨hil, ei⟩ := List.getElem?_eq_some_iff.mp h
    exact absurd (ej.trans ei.symm) (List.pairwise_iff_getElem.mp hn j i hjl hil hji)
  · rw [if_neg hji] at hj
    cases hj
/-- the set is filled, one id after another -/
theorem set_fill (W : WalksS prog w A.in1 I fp wr G n P St) (S : Addr) (hSf : S ∉ fp) (xs : List Str) (hsz : xs.length = n) (hnd : xs.Nodup) (hb : n + 1 < scanBound) (hval : ∀ i v, P i v → ∃ t, v = .str (xs.getD i Str.empty) t) :
    ∀ (k i : Nat) (s : Shared), n - i = k → i ≤ n → St i s → s.heap.SetOf (PySem.strKind prog w) S (fun k' => (xs.take i).any (· == k')) i →
      (∀ s', Moved (S :: wr) G s s' → s'.heap.SetOf (PySem.strKind prog w) S (fun k' => (xs.take n).any (· == k')) n → R (.ok (.ret .none)) s') →
      codeAny (model prog w) A (.builtin "set.update.loop" ⟨[.ref S, .ref I], []⟩) R s := by
  have hSw : S ∉ wr := fun h => hSf (W.sub _ h)
  have hsub : ∀ b ∈ wr, b ∈ S :: wr := fun b hb => List.mem_cons_of_mem _ hb
  have keepS : ∀ {s s' : Shared} {Sf : Str → Bool} {m : Nat}, Moved wr G s s' → s.heap.SetOf (PySem.strKind prog w) S Sf m → s'.heap.SetOf (PySem.strKind prog w) S Sf m := fun hm ⟨o, es, ep, t, ho, rest⟩ => ⟨o, es, ep, t, hm.heap S _ hSw ho, rest⟩
  intro k
  induction k with
  | zero =>
    intro i s hk hi hst hS hR
    have hin : i = n := by omega
    subst hin
    refine codeAny_builtin PyProof.Rows.F.entry_set_update_loop ?_
    rw [Around.under_plainId PyProof.Rows.F.plain_set_update_loop _]
    show wpAny _ A.in1 (pyNext (.ref I) >>= _) _ _ s
    refine wpAny_bind (W.done s _ _ hst fun s' hm => ?_)
    exact wpAny_pure (hR s' (hm.mono hsub) (keepS hm hS))
  | succ k ih =>
    intro i s hk hi hst hS hR
    have hlt : i < n := by omega
    have hx : xs[i]? = some (xs.getD i Str.empty) := by
      rw [List.getD_eq_getElem?_getD, List.getElem?_eq_getElem (show i < xs.length by omega)] <;> rfl
    refine codeAny_builtin PyProof.Rows.F.entry_set_update_loop ?_
    rw [Around.under_plainId PyProof.Rows.F.plain_set_update_loop _]
    show wpAny _ A.in1 (pyNext (.ref I) >>= _) _ _ s
    refine wpAny_bind (W.item i s _ _ hlt hst fun v s' hP hst' hm => ?_)
    obtain ⟨t, rfl⟩ := hval i v hP
    show wpAny _ A.in1 (holding [Value.str (xs.getD i Str.empty) t] (setAdd S (.str (xs.getD i Str.empty) t)) >>= _) _ _ s'
    refine wpAny_bind (wpAny_holding ?_)
    unfold setAdd
    refine wpAny_holding ?_
    refine wpAny_bind ((PySem.strKind prog w).pyHash (k := xs.getD i Str.empty) (strKind_is _ _ _ _) ?_)
    refine wpAny_setAddHashed_of (knd := PySem.strKind prog w) (s := { s' with toks := s'.toks + 1 }) (strKind_is _ _ _ _) rfl (keepS (s' := s') hm hS) (by omega) fun h' hsb hS2 => ?_
    have hSi : h'.SetOf (PySem.strKind prog w) S (fun k' => (xs.take (i + 1)).any (· == k')) (i + 1) := by
      refine PyProof.Rows.SetOf_congr hS2 (fun k' => (take_any_snoc hx k').symm) ?_
      have q := fresh_at hnd hx
      simp only [q]
      rfl
    refine wpAny_pure ⟨plainId_quiet PyProof.Rows.F.plain_set_update_loop _, ih (i + 1) _ (by omega) hlt (W.frame _ s' _ _ hst' (Nat.le_succ _) fun b hb o e => ?_) hSi fun s'' hm'' hS'' => ?_⟩
    · rw [hsb.2 b (fun h : b = S => hSf (by rw [← h]; exact hb))]; exact e
    · refine hR s'' (Moved.trans W.gtrans ((hm.mono hsub).then_heap (Nat.le_succ _) fun b o hb e => ?_) hm'') hS''
      rw [hsb.2 b (fun h : b = S => hb (by rw [h]; exact List.mem_cons_self))]; exact e
end
section
variable {prog : Program} {w : World} {A : Around} {E : Value → Shared → Prop} {s : Shared}
abbrev newSet (led : Bool) : Obj := { cls := .type "set", dict := none, data := .set #[] 0 (.fresh 0 0 led) }
/-- the set's __init__ over a list: the loop -/
theorem set_init {l : Addr} {items : Array Value} {xs : List Str} {led : Bool} {Q : Value → Shared → Prop} (hh : A.handled = none) (hl : s.heap.IsList l items) (hi : PyProof.Rows.StrsAre items.toList xs) (hnd : xs.Nodup) (hb : xs.length + 1 < scanBound)
    (h : ∀ (h' : Heap) (tk : Nat), h'.SetOf (PySem.strKind prog w) s.heap.objs.size (fun k' => (xs.take items.size).any (· == k')) items.size →
      (∀ b o, b < s.heap.objs.size → s.heap.get? b = some o → h'.get? b = some o) → Q .none { s with heap := h', toks := tk }) :
    wpAny (model prog w) A (Builtin.«set.__init__» ⟨[.ref s.heap.objs.size, .ref l], []⟩) (fun fin s' => ∃ v, fin = .done (.ret v) ∧ Q v s') E { s with heap := s.heap.push (newSet led) } := by
  have hS : (s.heap.push (newSet led)).get? s.heap.objs.size = some (newSet led) := Heap.get?_push_size _ rfl
  obtain ⟨ol, hol, hcl, nl, hdl⟩ := hl
  obtain ⟨ocls, odict, odata, oslots⟩ := ol
  simp only at hcl hdl
  subst hcl; subst hdl
  have hol' : (s.heap.push (newSet led)).get? l = some { cls := .type "list", dict := odict, data := .seq items nl, slots := oslots } := Heap.get?_push_of_some _ hol
  have hsls := PySem.F.sub_list_set
  have hslf := PySem.F.sub_list_frozenset
  have hne : (Value.type "list" == Value.type "dict") = false := by decide
  have hl1 : (s.heap.push (newSet led)).IsList l items := ⟨_, hol', rfl, nl, rfl⟩
  unfold Builtin.«set.__init__» noKeywords Builtin.Frozenset.updateFrom
  generalize hPI : pyIter = PI
  wp_walk
  subst hPI
  refine wpAny_pyIter_list hl1 ?_
  refine wpAny_bind (wpAny_runValue ?_)
  have hlS : l < s.heap.objs.size := Heap.lt_size hol
  have hh1 : A.in1.handled = none := hh
  have hneI : l ≠ (s.heap.push (newSet led)).objs.size := by
    rw [Heap.size_push]; exact Nat.ne_of_lt (Nat.lt_succ_of_lt hlS)
  have hSf : s.heap.objs.size ∉ [(s.heap.push (newSet led)).objs.size, l] := by
    rw [Heap.size_push]; simp only [List.mem_cons, List.mem_singleton, List.not_mem_nil, or_false, not_or]
    exact ⟨Nat.ne_of_lt (Nat.lt_succ_self _), Nat.ne_of_gt hlS⟩
  have hsz : xs.length = items.size := by rw [← PyProof.Rows.StrsAre.len_eq hi, Array.length_toList]
  have hval : ∀ (i : Nat) (v : Value), items[i]? = some v → ∃ t, v = .str (xs.getD i Str.empty) t := fun i v hv => SS.strs_at hi i v (by rw [Array.getElem?_toList]; exact hv)
  have hget : ((s.heap.push (newSet led)).push { cls := .type "list_iterator", data := .fields #[.ref l, .int 0 0] }).get? s.heap.objs.size = some (newSet led) := Heap.get?_push_of_some _ hS
  refine set_fill ((Walks.list hh1 _ l hneI items).toS) s.heap.objs.size hSf xs hsz hnd (by rw [← hsz]; exact hb) hval (items.size - 0) 0 _ (by omega) (Nat.zero_le _)
    ⟨⟨_, Heap.get?_push_size _ rfl, rfl, rfl⟩, (hl1.push _)⟩ (PyProof.Rows.SetOf_congr ((PyProof.Rows.setObjOf_fresh (knd := PySem.strKind prog w) led).setOf hget (by unfold scanBound; omega)) (fun _ => rfl) rfl) fun s' hm hS' => ?_
  obtain ⟨h', g', d', tk', os'⟩ := s'
  have eg : g' = s.gens := hm.gens
  have ed : d' = s.drawn := hm.drawn
  have eo : os' = s.os := hm.os
  subst eg; subst ed; subst eo
  show wpAny _ _ _ _ _ _
  refine wpAny_pure ?_
  show wpAny _ _ (ret Value.none) _ _ _
  refine wpAny_pure ⟨_, rfl, h h' tk' hS' fun b o hb e => ?_⟩
  have hb1 : b ≠ s.heap.objs.size := Nat.ne_of_lt hb
  have hb2 : b ≠ (s.heap.push (newSet led)).objs.size := by
    rw [Heap.size_push]; exact Nat.ne_of_lt (Nat.lt_succ_of_lt hb)
  exact hm.heap b o (by simp only [List.mem_cons, List.mem_singleton, List.not_mem_nil, or_false, not_or]; exact ⟨hb1, hb2⟩) (Heap.get?_push_of_some _ (Heap.get?_push_of_some _ e))
/-- set(l) -/
theorem call_set_ids {l : Addr} {items : Array Value} {xs : List Str} {Q : Value → Shared → Prop} (hh : A.handled = none) (hl : s.heap.IsList l items) (hi : PyProof.Rows.StrsAre items.toList xs) (hnd : xs.Nodup) (hb : xs.length + 1 < scanBound)
    (h : ∀ (h' : Heap) (tk : Nat), h'.SetOf (PySem.strKind prog w) s.heap.objs.size (fun k' => (xs.take items.size).any (· == k')) items.size →
      (∀ b o, b < s.heap.objs.size → s.heap.get? b = some o → h'.get? b = some o) → Q (.ref s.heap.objs.size) { s with heap := h', toks := tk }) :
    wpAny (model prog w) A (call (.type "set") [.ref l]) Q E s := by
  obtain ⟨c, tl, hmro⟩ := PySem.F.called_set.mro
  have hmade := PySem.F.called_set.made
  have hsub := PySem.F.called_set.sub
  refine wpAny_call (codeAny_of_tree ?_)
  show wpAny _ _ (callAny (.type "set") _) _ _ _
  refine wpAny_pure ⟨Code.quiet_builtin _ (by decide +kernel), codeAny_builtin PySem.F.entry_type_call ?_⟩
  rw [Around.under_plain (weight_type_call_type "set" [.ref l] []) rfl]
  have h1 := PySem.F.called_set.notType
  have h2 := PySem.F.called_set.canCreate
  have hct := PySem.F.typeCall_set_1 (.ref l)
  repeat (any_goals (first | assumption | wp_step))
  refine codeAny_mono (code_set_new_1 (.ref l) (E := E) (Q₁ := fun obj s₁ => ∃ led : Bool, obj = .ref s.heap.objs.size ∧ s₁ = { s with heap := s.heap.push (newSet led) }) fun led => ⟨led, rfl, rfl⟩) fun r s₁ hr => ?_
  cases r with
  | error e => exact hr
  | ok fl =>
    cases fl with
    | ret obj =>
      obtain ⟨led, rfl, rfl⟩ := hr
      have hT : Shared.TypeIs { s with heap := s.heap.push (newSet led) } (.ref s.heap.objs.size) "set" := ⟨_, Heap.get?_push_size _ rfl, rfl⟩
      have hli := PySem.F.called_set.init.lookup
      have hbi := PySem.F.called_set.init.bind (.ref s.heap.objs.size)
      repeat (any_goals (first | assumption | wp_step))
      refine codeAny_mono (codeAny_call_builtin (R := wants (fun r s₂ => r = .none ∧ ∃ h' tk, s₂ = { s with heap := h', toks := tk } ∧
          h'.SetOf (PySem.strKind prog w) s.heap.objs.size (fun k' => (xs.take items.size).any (· == k')) items.size ∧
          (∀ b o, b < s.heap.objs.size → s.heap.get? b = some o → h'.get? b = some o)) E) PySem.F.called_set.init.plain PySem.F.entry_set_init (check_set_init_1 hT (wpAny_mono (set_init (E := E) (Q := fun r s₂ => r = .none ∧ ∃ h' tk, s₂ = { s with heap := h', toks := tk } ∧
          h'.SetOf (PySem.strKind prog w) s.heap.objs.size (fun k' => (xs.take items.size).any (· == k')) items.size ∧
          (∀ b o, b < s.heap.objs.size → s.heap.get? b = some o → h'.get? b = some o)) (by first | exact hh | simp [hh]) hl hi hnd hb fun h' tk a b => ⟨rfl, h', tk, rfl, a, b⟩) (fun fin s₂ q => ?_) fun e s₂ q => q))) fun r₂ s₂ hr₂ => ?_
      · obtain ⟨v, rfl, q⟩ := q
        exact q
      · cases r₂ with
        | error e => exact hr₂
        | ok fl₂ =>
          cases fl₂ with
          | ret r =>
            obtain ⟨rfl, h', tk, rfl, hS', hk'⟩ := hr₂
            repeat (any_goals (first | assumption | wp_step))
            exact h _ _ hS' hk'
          | _ => exact hr₂.elim
    | _ => exact hr.elim
end
section
variable {X : Cx}
def tLenIds (K : PySem.W.Frag) (ta : TE) : TE := fun σ H Q => ta σ H fun x H1 => ∃ (l : Addr) (xs : List Str), x = .ref l ∧ SqL K H1 l (xs.map V.str) ∧ xs.Nodup ∧ xs.length ≤ 1000 ∧ Q (.int xs.length) H1
theorem pe_lenIds {a : Expr} {ta : TE} {p p2 q pos : Pos} (B : Bl X.mg) (hc : X.calm = true) (ha : PE X a ta) (hg : Gl X "len" := by rfl) (hg2 : Gl X "set" := by rfl)
    (na : starEach [a] X.env = (false, eval a X.env) :: starEach [] X.env := by rfl) : PE X (.Call (.Name "len" p) [.Call (.Name "set" p2) [a] [] q] [] pos) (tLenIds X.K ta) := by
  refine ⟨fun pins s σ H Q I h => ?_⟩
  refine Call_ (ld_blt I hg B.len boot_len ?_)
  refine PyProof.Rows.callWith_builtin1 (PyProof.Rows.args_cons ?_ rfl) rfl rfl
  refine Call_ (ld_blt I hg2 B.set PyProof.Rows.boot_set ?_)
  refine PyProof.Rows.callWith_type1 (PyProof.Rows.args_cons (thn (ha.run pins s σ H _ I h) fun v s1 ⟨x, H1, I1, r1, q1⟩ => PyProof.Rows.args_nil ?_) na) na rfl
  obtain ⟨l, xs, rfl, hq, hnd, hl, q1⟩ := q1
  cases r1
  obtain ⟨its, r, pl, hz⟩ := I1.list hq
  have hlen : its.toArray.size = xs.length := by rw [List.size_toArray, ← r.length, List.length_map]
  refine call_set_ids (I1.ok.hd hc) pl.isList (by simpa using L2.strsAre_of r) hnd (by unfold scanBound; omega) fun h' tk hS hk => ?_
  refine PyProof.Rows.args_nil ?_
  rw [hlen] at hS
  obtain ⟨o, es, ep, t, ho, hex, hd, _, _, _, hf, hn⟩ := hS
  have I2 : Inv X pins σ H1 { s1 with heap := h', toks := tk } := I1.kept fun b o e => hk b o (Heap.lt_size e) e
  exact call_len_set ho hex hd hf (by rw [hn] <;> omega) ⟨.int xs.length, H1, I2.tok _, ⟨_, by rw [hn]⟩, q1⟩
end
end K39
/-! M3 -/
set_option maxHeartbeats 4000000
/-! is_chain -/
namespace K39
open PySem PySem.Spec PyProof.Rows L2

/-- a loop over zip of two lists -/
theorem for_zip2 {K : PySem.W.Frag} {a b : Addr} {xs ys : List V} {g : TG} {tb : TS} {D : Ends} {σ : L2.St} {H : Hp} (Pv : Nat → L2.St → Hp → Prop) (h0 : Pv 0 σ H) (hq : ∀ i σ H, Pv i σ H → SqL K H a xs ∧ SqL K H b ys)
    (hs : ∀ (i : Nat) (x y : V) (T : Addr) (σ : L2.St) (H : Hp), xs[i]? = some x → ys[i]? = some y → Pv i σ H → H T = none → g (.ref T) σ (upd H T (.tup [x, y])) fun σ2 H2 => tb { D with nx := Pv (i + 1), ct := Pv (i + 1), bk := D.nx } σ2 H2) (hd : ∀ i σ H, Pv i σ H → (xs.length ≤ i ∨ ys.length ≤ i) → D.nx σ H) :
    ∃ W : Nat → Nat → L2.St → Hp → Prop, (∃ m, W 0 m σ H) ∧ ∀ i m σ H, W i m σ H →
      ((Itz K a b).stop i H ∧ D.nx σ H) ∨ ((Itz K a b).go i H ∧ ∃ N : L2.St → Hp → Prop, (∀ σ' H', N σ' H' → ∃ m', m' < m ∧ W (i + 1) m' σ' H') ∧ ∀ v H', (Itz K a b).yld i H v H' → g v σ H' fun σ2 H2 => tb { D with nx := N, ct := N, bk := D.nx } σ2 H2) := by
  refine ⟨fun i m σ H => m = xs.length + 1 - i ∧ i ≤ xs.length ∧ Pv i σ H, ⟨xs.length + 1, rfl, Nat.zero_le _, h0⟩, ?_⟩
  rintro i m σ H ⟨rfl, hi, p⟩
  obtain ⟨qx, qy⟩ := hq i σ H p
  by_cases h1 : i < xs.length
  · by_cases h2 : i < ys.length
    · have hx : xs[i]? = some xs[i] := List.getElem?_eq_getElem h1
      have hy : ys[i]? = some ys[i] := List.getElem?_eq_getElem h2
      refine .inr ⟨⟨xs, ys, _, _, qx, qy, hx, hy⟩, Pv (i + 1), fun σ' H' p' => ⟨xs.length + 1 - (i + 1), by omega, rfl, h1, p'⟩, fun v H' y => ?_⟩
      obtain ⟨T, x', y', rfl, hT, rfl, f1, f2⟩ := y
      exact hs i x' y' T σ H (f1 xs qx) (f2 ys qy) p hT
    · exact .inl ⟨⟨xs, ys, qx, qy, .inr (by omega)⟩, hd i σ H p (.inr (by omega))⟩
  · exact .inl ⟨⟨xs, ys, qx, qy, .inl (by omega)⟩, hd i σ H p (.inl (by omega))⟩

structure GoodCh (its : List Itm) (x : Str) (found : List Str) : Prop where
  head : found.head? = some x
  nd : found.Nodup
  ok : ∀ y ∈ found, IdOk y ∧ (findI its y).isSome = true
  step : ∀ (i : Nat) (a b : Str), found[i]? = some a → found[i + 1]? = some b → nxI its a = b
  last : ∀ a, found.getLast? = some a → nxI its a = "" ∨ nxI its a ∈ found
  len : found.length ≤ 100
def spIsChain : Sp := fun vs H Q _ => ∃ r as its x l found, vs = [.ref r, .str x, .ref l] ∧ RowsAt H r as its ∧ its.length ≤ 100 ∧ (∀ t ∈ its, ItmOk t) ∧ H l = some (.lst (found.map V.str)) ∧ GoodCh its x found ∧ ∀ H', Same H H' → Q (.bl true) H'
section
variable {P : Program} {w : World} {K : PySem.W.Frag} {mg : Str → Option Value} {base : Heap}
abbrev nIsChain : List Str := ["_law_rows", "_law_key", "_law_found", "_law_before", "_law_behind", "_law_last"]
theorem scIsChain : FnScope nIsChain ["_law_rows", "_law_key", "_law_found"] (defScope sIsChain) := ⟨rfl, rfl, rfl, by decide +kernel, rfl, by decide +kernel, by decide +kernel⟩
theorem ok_isChain (B : Bl mg) (F : FnA K mg "_law_is_chain" sIsChain) (N : C8.Cal P w K mg base 2 "_law_next_id" spNextId []) : C8.Cal P w K mg base 3 "_law_is_chain" spIsChain [] := by
  refine F.cal scIsChain (fun _ _ _ _ _ _ us hl => match us, hl with | [_, _, _], _ => rfl) (fun vs H Q E h => by obtain ⟨r, as, its, x, l, found, rfl, _⟩ := h; rfl) fun f cdv A outer s H vs Q E hr h => ?_
  have hu : (cxOf CX0 P w K mg base nIsChain "_law_is_chain" (defScope sIsChain) f cdv A outer s H E).nox.A.units + 64 < cLine := by
    have := hr.un
    show (A.deeper _).units + 64 < cLine
    omega
  refine ⟨_, pss_cons (ps_if (PW.pt (pw_or (pt_not (pt_val (pe_isi B (pv 2) B.list bL))) (pw_or (pt_cmpR (op_eqD hu) (pv 2) (pe_lst pa_nil) (nomark _)) (pw_or (pt_cmpR op_ne (pe_ix ix_list (pv 2) pe_int (fun _ _ => rfl)) (pv 1) (nomark _)) (pw_or1 (pt_cmpR op_ne (pe_lenIds B rfl (pv 2)) (pe_lenS B (pv 2)) (nomark _)))))))
      (pss_one (ps_ret pe_bl)) pss_nil)
    (pss_cons (ps_for PassesOwn.never rfl (pi_zip (by rfl) B.zip (pa_cons (pv 2) (pa_cons (pe_slice sl_list (pv 2) (po_some pe_int) po_none) pa_nil))) (pg_tup rfl (pgs_cons (pg_name (i := 3) scIsChain.nd rfl (Or.inl rfl)) (pgs_cons (pg_name (i := 4) scIsChain.nd rfl (Or.inl rfl)) pgs_nil)))
      (pss_one (ps_if (pt_cmpR op_ne (C8.pe_c N hr (by decide) (by rfl) (pa_cons (pv 0) (pa_cons (pv 3) pa_nil))) (pv 4) (nomark _)) (pss_one (ps_ret pe_bl)) pss_nil)))
    (pss_cons (ps_set (i := 5) scIsChain.nd rfl (Or.inl rfl) (C8.pe_c N hr (by decide) (by rfl) (pa_cons (pv 0) (pa_cons (pe_ix ix_list (pv 2) (pe_un un_neg pe_int) (fun _ _ => rfl)) pa_nil))))
    (pss_one (ps_ret (pe_or (pe_cmpR op_eq (pv 5) pe_str (nomark _)) (pe_one (pe_cmpR op_in_seq (pv 5) (pv 2) rfl))))))), ?_⟩
  obtain ⟨r, as, its, x, l, found, rfl, hR, hl, hok, hL, G, k⟩ := h
  refine ⟨_, rfl, _, _, _, _, true, rfl, .ty "list", .base (.lst hL), kit_ty (by decide +kernel), true, rfl, ?_⟩
  have dpL : ∀ {H' : Hp}, Same H H' → Dp K H' (.ref l) (.list (dS found)) := fun sm => dp_strs (sm _ _ hL)
  have hne : found ≠ [] := fun q => by rw [q] at G; cases G.head
  have h0 : found[0]? = some x := by
    have := G.head
    rw [List.head?_eq_getElem?] at this
    exact this
  refine ⟨_, rfl, Nat.zero_le _, fun e he => ?_⟩
  have s1 := same_new (o := .lst []) he
  refine ⟨_, _, dpL s1, .lst (.of upd_same) .nil, sh_strs fun y hy => (G.ok y hy).1.ok, sh_nil, _, rfl, ?_⟩
  rw [eqv_nil, show (dS found).isEmpty = false from by cases found with | nil => exact absurd rfl hne | cons _ _ => rfl]
  have hL1 := s1 _ _ hL
  refine ⟨_, rfl, l, _, 0, _, rfl, rfl, .of hL1, atI_nat (j := 0) (by rw [List.getElem?_map, h0]; rfl), _, rfl, rfl, _, rfl, ?_⟩
  rw [decide_eq_true (rfl : V.str x = V.str x)]
  refine ⟨_, rfl, l, found, rfl, .of hL1, G.nd, Nat.le_trans G.len (by decide), _, rfl, l, _, rfl, .inl (.of hL1), rfl, _, rfl, ?_⟩
  rw [List.length_map, decide_eq_true rfl]
  have hlen1 : 1 ≤ (found.map V.str).length := by
    rw [List.length_map]
    cases found with
    | nil => exact absurd rfl hne
    | cons _ _ => simp
  refine ⟨_, rfl, _, rfl, 1, rfl, l, _, rfl, .of hL1, fun p hp => ?_⟩
  rw [show (1 : Int) = ((1 : Nat) : Int) from rfl, cut_hi hlen1]
  have s2 := same_new (o := .lst ((found.map V.str).drop 1)) hp
  have sA := s1.trans s2
  refine ⟨l, p, _, _, rfl, .of (s2 _ _ hL1), .of upd_same, for_zip2 (K := K) (a := l) (b := p) (xs := found.map V.str) (ys := (found.map V.str).drop 1) (fun i σ H' => Same (upd (upd H e (.lst [])) p (.lst ((found.map V.str).drop 1))) H' ∧ ∃ x3 x4, σ = [some (.ref r), some (.str x), some (.ref l), x3, x4, none])
    ⟨Same.refl _, none, none, rfl⟩ (fun i σ H' h => ⟨.of (h.1 _ _ (s2 _ _ hL1)), .of (h.1 _ _ upd_same)⟩) ?_ ?_⟩
  · rintro i a b T σ H' ha hb ⟨sm, x3, x4, rfl⟩ hT
    rw [List.getElem?_map] at ha
    obtain ⟨ya, hya, rfl⟩ := Option.map_eq_some_iff.mp ha
    rw [List.getElem?_drop, List.getElem?_map] at hb
    obtain ⟨yb, hyb, rfl⟩ := Option.map_eq_some_iff.mp hb
    have sT := same_new (o := .tup [.str ya, .str yb]) hT
    have sB := (sA.trans sm).trans sT
    refine ⟨T, _, rfl, .of upd_same, rfl, _, _, rfl, _, _, rfl, rfl, ?_⟩
    refine ⟨_, rfl, _, rfl, r, as, its, ya, rfl, hR.keep (.same sB), hl, hok, (G.ok ya (List.mem_of_getElem? hya)).2, fun H3 s3 => ?_⟩
    refine ⟨_, rfl, rfl, _, rfl, ?_⟩
    rw [G.step i ya yb hya (by rw [Nat.add_comm] at hyb; exact hyb), decide_eq_true rfl]
    exact ⟨(sm.trans sT).trans s3, _, _, rfl⟩
  · rintro i σ H' ⟨sm, x3, x4, rfl⟩ _
    obtain ⟨lst, hlast⟩ : ∃ y, found.getLast? = some y := by
      cases h : found.getLast? with
      | none => exact absurd (List.getLast?_eq_none_iff.mp h) hne
      | some y => exact ⟨y, rfl⟩
    obtain ⟨pre, hpre⟩ : ∃ pre, found = pre ++ [lst] := by
      obtain ⟨pre, h⟩ := List.getLast?_eq_some_iff.mp hlast
      exact ⟨pre, h⟩
    have hLf := sm _ _ (s2 _ _ hL1)
    have hmem : lst ∈ found := by rw [hpre]; simp
    refine ⟨_, rfl, _, rfl, ?_⟩
    refine ⟨_, rfl, l, _, -1, _, rfl, rfl, .of hLf, (by rw [hpre, List.map_append]; exact atI_last _ _), r, as, its, lst, rfl, hR.keep (.same (sA.trans sm)), hl, hok, (G.ok lst hmem).2, fun H3 s3 => ?_⟩
    have sE := (sA.trans sm).trans s3
    refine ⟨_, rfl, rfl, _, rfl, ite2 (fun _ => k _ sE) fun hn => ?_⟩
    have hin : nxI its lst ∈ found := (G.last lst hlast).resolve_left fun q => hn (by rw [q]; exact decide_eq_true rfl)
    refine ⟨_, rfl, _, rfl, l, _, rfl, .inl (.of (s3 _ _ hLf)), rfl, ?_, ?_⟩
    · rw [List.all_map, List.all_eq_true]
      exact fun _ _ => rfl
    · rw [if_neg (by decide)]
      have : inV (.str (nxI its lst)) (found.map V.str) = true := by
        unfold inV
        rw [List.any_map, List.any_eq_true]
        exact ⟨_, hin, by show (nxI its lst == nxI its lst) = true; exact beq_self_eq_true _⟩
      rw [this]
      exact k _ sE
end
end K39
/-! M4 -/
set_option maxHeartbeats 4000000
/-! begun -/
namespace K39
open PySem PySem.Spec PyProof.Rows L2

/-- what the top has of chain -/
structure ChT (K : PySem.W.Frag) (mg : Str → Option Value) (f : Addr) : Prop where
  fn : ∃ fd, FnP K "chain" "chain" sChain f fd
  mg : mg "chain" = some (.ref f)
  kp : PySem.W.keepIn K (.ref f) = true
theorem ChT.gen {X : Cx} {f : Addr} (T : ChT X.K X.mg f) : GenT X f := ⟨T.fn, T.mg, T.kp⟩
def spBegun (C : Addr) : Sp := fun vs H Q _ => ∃ (bk : Addr) (y : Str) (n : Nat) (full : List Str), vs = [.ref bk, .str y, .int n] ∧ 1 ≤ n ∧ ChAt H C bk y full ∧ full.length ≤ 500 ∧
  ∀ (H' : Hp) (p : Addr), Same H H' → H p = none → H' p = some (.lst ((full.take n).map V.str)) → Q (.ref p) H'
section
variable {P : Program} {w : World} {K : PySem.W.Frag} {mg : Str → Option Value} {base : Heap}
abbrev nBegun : List Str := ["_law_book", "_law_key", "_law_many", "_law_found", "_law_one"]
theorem scBegun : FnScope nBegun ["_law_book", "_law_key", "_law_many"] (defScope sBegun) := ⟨rfl, rfl, rfl, by decide +kernel, rfl, by decide +kernel, by decide +kernel⟩
theorem ok_begun {C fG fH fC : Addr} (B : Bl mg) (F : FnA K mg "_law_begun" sBegun) (T : BkT K mg C fG fH) (TC : ChT K mg fC) : C8.Cal P w K mg base 3 "_law_begun" (spBegun C) [] := by
  refine F.cal scBegun (fun _ _ _ _ _ _ us hl => match us, hl with | [_, _, _], _ => rfl) (fun vs H Q E h => by obtain ⟨bk, y, n, full, rfl, _⟩ := h; rfl) fun f cdv A outer s H vs Q E hr h => ?_
  refine ⟨_, pss_cons (ps_set (i := 3) scBegun.nd rfl (Or.inl rfl) (pe_lst pa_nil))
    (pss_cons (ps_forCh (i := 0) (j := 1) TC.gen T hr rfl (Or.inl rfl) rfl (Or.inl rfl) (pg_name (i := 4) scBegun.nd rfl (Or.inl rfl))
      (pss_cons (ps_expr (pe_bm PySem.F.plainAttrs_list PySem.F.slot_list_append PySem.F.type_list_append mt_append (pv 3) (pa_cons (pv 4) pa_nil)))
      (pss_one (ps_if (pt_cmpR op_eq (pe_lenS B (pv 3)) (pv 2) (nomark _)) (pss_one (ps_ret (pv 3))) pss_nil))))
    (pss_one (ps_ret (pv 3)))), ?_⟩
  obtain ⟨bk, y, n, full, rfl, hn, ⟨lk, hB, hs, hc, _⟩, hl, k⟩ := h
  refine ⟨Nat.zero_le _, fun p hp => ?_⟩
  have s0 := same_new (o := .lst []) hp
  refine ⟨bk, y, full, lk, rfl, rfl, BookF.same hB s0, hs, hc, by omega, fun i σ H' => Same H H' ∧ ∃ x4, σ = [some (.ref bk), some (.str y), some (.int n), some (.ref p), x4] ∧ H' p = some (.lst ((full.take i).map V.str)) ∧ i < n, ⟨s0, none, rfl, upd_same, by omega⟩, fun i σ H' h => BookF.same hB h.1, ?_, ?_⟩
  · rintro i x σ H' hx ⟨sm, x4, rfl, hP, hin⟩
    have hil : i < full.length := (List.getElem?_eq_some_iff.mp hx).1
    have etk : (full.take i).map V.str ++ [V.str x] = (full.take (i + 1)).map V.str := by rw [take_succ_of hx, List.map_append]; rfl
    have hlen : ((full.take i).map V.str).length = i := by rw [List.length_map, List.length_take]; omega
    have sP : Same H (upd H' p (.lst ((full.take (i + 1)).map V.str))) := fun b o e => by rw [upd_ne (ne_of_none e hp)]; exact sm b o e
    refine ⟨_, rfl, .inl ⟨rfl, _, .of hP⟩, _, rfl, p, _, _, rfl, rfl, hP, by rw [hlen]; exact small1000 (by omega), ?_⟩
    rw [etk]
    refine ⟨_, rfl, p, _, rfl, .inl (.of upd_same), _, rfl, rfl, _, rfl, ?_⟩
    have hlen1 : ((full.take (i + 1)).map V.str).length = i + 1 := by rw [List.length_map, List.length_take]; omega
    rw [hlen1]
    refine ite2 (fun e => ?_) fun e => ?_
    · have en : i + 1 = n := by
        have := of_decide_eq_true e
        injection this with this
        omega
      refine ⟨_, rfl, k _ p sP hp ?_⟩
      rw [en, upd_same]
    · have en : i + 1 ≠ n := fun q => e (by rw [q]; exact decide_eq_true rfl)
      exact ⟨sP, _, rfl, upd_same, by omega⟩
  · rintro σ H' ⟨sm, x4, rfl, hP, hin⟩
    refine ⟨_, rfl, k _ p sm hp ?_⟩
    rw [hP, List.take_length, List.take_of_length_le (by omega)]
end
end K39
/-! M5 -/
set_option maxHeartbeats 4000000
/-! shown -/
namespace K39
open PySem PySem.Spec PyProof.Rows L2
open PySem.PyData (strOk)

def kindI (its : List Itm) (y : Str) : Str := match findI its y with
  | some t => t.kind
  | none => ""
abbrev shownI (its : List Itm) (found kinds : List Str) : Option Str := found.find? fun y => decide (kindI its y ∈ kinds)
def oV : Option Str → V
  | none => .non
  | some x => .str x
def spShown : Sp := fun vs H Q _ => ∃ r as its l q found kinds, vs = [.ref r, .ref l, .ref q] ∧ RowsAt H r as its ∧ its.length ≤ 100 ∧ (∀ t ∈ its, ItmOk t) ∧ H l = some (.lst (found.map V.str)) ∧ H q = some (.lst (kinds.map V.str)) ∧ found.length ≤ 500 ∧ (∀ y ∈ found, strOk y = true ∧ (findI its y).isSome = true) ∧
  ∀ H', Same H H' → Q (oV (shownI its found kinds)) H'
theorem opIn {K : PySem.W.Frag} {Y : Cx} (h : Y.K = K := by rfl) : OpR Y (compareOp .In) (rIn K false) := by rw [← h]; exact op_in_seq
theorem inV_strs {x : Str} {xs : List Str} : inV (.str x) (xs.map V.str) = decide (x ∈ xs) := by
  unfold inV
  rw [List.any_map, Bool.eq_iff_iff, List.any_eq_true, decide_eq_true_iff]
  constructor
  · rintro ⟨y, hy, e⟩
    have e' : (y == x) = true := e
    rw [← eq_of_beq e']
    exact hy
  · intro h
    exact ⟨x, h, by show (x == x) = true; exact beq_self_eq_true _⟩
theorem flat_strs' {xs : List Str} : (xs.map V.str).all flatV = true := by
  rw [List.all_map, List.all_eq_true]
  exact fun _ _ => rfl
section
variable {P : Program} {w : World} {K : PySem.W.Frag} {mg : Str → Option Value} {base : Heap}
abbrev nShown : List Str := ["_law_rows", "_law_found", "_law_kinds", "_law_some", "_law_key"]
theorem scShown : FnScope nShown ["_law_rows", "_law_found", "_law_kinds"] (defScope sShown) := ⟨rfl, rfl, rfl, by decide +kernel, rfl, by decide +kernel, by decide +kernel⟩
theorem ok_shown (B : Bl mg) (F : FnA K mg "_law_shown" sShown) (N : C8.Cal P w K mg base 1 "_law_first" spFirst []) : C8.Cal P w K mg base 2 "_law_shown" spShown [] := by
  refine F.cal scShown (fun _ _ _ _ _ _ us hl => match us, hl with | [_, _, _], _ => rfl) (fun vs H Q E h => by obtain ⟨r, as, its, l, q, found, kinds, rfl, _⟩ := h; rfl) fun f cdv A outer s H vs Q E hr h => ?_
  have hu : (cxOf CX0 P w K mg base nShown "_law_shown" (defScope sShown) f cdv A outer s H E).nox.A.units + 64 < cLine := by
    have := hr.un
    show (A.deeper _).units + 64 < cLine
    omega
  refine ⟨_, pss_cons (ps_setLc (i := 3) (own := [("_law_key", 4)]) (g := gName 4) rfl scShown.nd rfl rfl (sw_true rfl rfl rfl (by decide +kernel)) (pi_list (pv 1)) (blkOk_by (own := [("_law_key", 4)]) (N := nShown) (sc := defScope sShown) (by decide +kernel))
        (fun _ _ _ _ _ => pg_name (i := 4) scShown.nd rfl (Or.inl rfl)) (fun _ _ _ _ _ => pts_one (pt_cmpR (opIn (K := K)) (pe_ix (ixT (K := K)) (C8.pe_c N hr (by decide) (by rfl) (pa_cons (pv 0) (pa_cons (pv 4) pa_nil))) pe_int (fun _ _ => rfl)) (pv 2) rfl)) (fun _ _ _ _ _ => pv 4))
    (pss_one (ps_ret (pe_ifExp (pt_cmpR (op_neD hu) (pv 3) (pe_lst pa_nil) (nomark _)) (pe_ix ix_list (pv 3) pe_int (fun _ _ => rfl)) pe_non))), ?_⟩
  obtain ⟨r, as, its, l, q, found, kinds, rfl, hR, hl, hok, hL, hK, hfl, hf, k⟩ := h
  refine ⟨_, rfl, l, rfl, ⟨_, .of hL⟩, fun D hD => ?_⟩
  have s0 := same_new (o := .lst []) hD
  have nDl := ne_of_none hL hD
  refine lc_list (K := K) (a := l) (xs := found.map V.str) (fun i H' => Same H H' ∧ H' D = some (.lst (((found.take i).filter fun y => decide (kindI its y ∈ kinds)).map V.str))) ⟨s0, upd_same⟩ (fun i H' hi h => .of (h.1 _ _ hL)) ?_ ?_
  · rintro i z H1 hi ⟨sm, hDb⟩
    rw [List.getElem?_map] at hi
    obtain ⟨y, hy, rfl⟩ := Option.map_eq_some_iff.mp hi
    obtain ⟨hy1, hy2⟩ := hf y (List.mem_of_getElem? hy)
    obtain ⟨t, ht⟩ := Option.isSome_iff_exists.mp hy2
    have hil : i < found.length := (List.getElem?_eq_some_iff.mp hy).1
    refine ⟨rfl, _, rfl, _, rfl, r, as, its, y, rfl, hR.keep (.same sm), hl, hok, fun H2 s2 => ?_⟩
    rw [ht]
    intro u hat
    obtain ⟨c, hc, _⟩ := id hat
    have ek : kindI its y = t.kind := by unfold kindI; rw [ht]
    have sm2 := sm.trans s2
    refine ⟨u, _, 1, _, rfl, rfl, .of hc, atI_nat (j := 1) rfl, _, rfl, q, _, rfl, .inl (.of (sm2 _ _ hK)), rfl, flat_strs', _, rfl, ?_⟩
    rw [if_neg (by decide), inV_strs, ← ek]
    have tkf : (found.take (i + 1)).filter (fun y => decide (kindI its y ∈ kinds)) = (found.take i).filter (fun y => decide (kindI its y ∈ kinds)) ++ if kindI its y ∈ kinds then [y] else [] := by
      rw [take_succ_of hy, List.filter_append]
      by_cases h : kindI its y ∈ kinds
      · simp [h]
      · simp [h]
    have hDb2 := s2 _ _ hDb
    refine ite2 (fun e => ?_) fun e => ?_
    · have hin := of_decide_eq_true e
      refine ⟨_, rfl, _, hDb2, ?_, fun b o eb => ?_, ?_⟩
      · rw [List.length_map]
        have : ((found.take i).filter fun y => decide (kindI its y ∈ kinds)).length ≤ 500 := Nat.le_trans (List.length_filter_le ..) (by rw [List.length_take]; omega)
        exact small1000 (by omega)
      · rw [upd_ne (ne_of_none eb hD)]
        exact sm2 b o eb
      · rw [upd_same, tkf, if_pos hin, List.map_append]
        rfl
    · have hin : ¬ kindI its y ∈ kinds := fun q => e (decide_eq_true q)
      refine ⟨sm2, ?_⟩
      rw [tkf, if_neg hin, List.append_nil]
      exact hDb2
  · rintro H1 ⟨sm, hDb⟩
    rw [List.length_map, List.take_length] at hDb
    refine ⟨_, rfl, Nat.zero_le _, fun e he => ?_⟩
    have s1 := same_new (o := .lst []) he
    have hfi : shownI its found kinds = (found.filter fun y => decide (kindI its y ∈ kinds)).head? := by rw [List.head?_filter]
    have hok2 : ∀ y ∈ found.filter (fun y => decide (kindI its y ∈ kinds)), strOk y = true := fun y hy => (hf y (List.mem_filter.mp hy).1).1
    have kk := k (upd H1 e (.lst [])) (sm.trans s1)
    rw [hfi] at kk
    refine ⟨_, _, dp_strs (s1 _ _ hDb), .lst (.of upd_same) .nil, sh_strs hok2, sh_nil, _, rfl, ?_⟩
    rw [eqv_nil]
    have hDb3 := s1 _ _ hDb
    generalize (found.filter fun y => decide (kindI its y ∈ kinds)) = fl at hDb3 kk
    cases fl with
    | nil => exact kk
    | cons y ys => exact ⟨_, rfl, D, _, 0, _, rfl, rfl, .of hDb3, atI_nat (j := 0) rfl, kk⟩
end
end K39
/-! M6 -/
set_option maxHeartbeats 4000000
/-! readable -/
namespace K39
open PySem PySem.Spec PyProof.Rows L2

theorem passes_never {P : Program} {w : World} {X : Cx} : Passes (L2.CX P w) X (fun _ _ _ => False) := fun _ _ _ _ _ _ _ ⟨_, _, _, _, _, _, _, _, _, _, _, _, z⟩ => z.elim
theorem NoAt.keep {K : PySem.W.Frag} {H H' : Hp} {C N bk : Addr} {v : V} {E : XK} (h : NoAt K H C N bk v E) (sm : Same H H') : NoAt K H' C N bk v E := by
  obtain ⟨dx, di, fs, kvs, ⟨h1, h2, h3⟩, hm, k⟩ := h
  exact ⟨dx, di, fs, kvs, ⟨sm _ _ h1, h2, sm _ _ h3⟩, hm.keep sm, fun H1 d s1 hd => k H1 d (sm.trans s1) hd⟩
theorem NoAt.imp {K : PySem.W.Frag} {H : Hp} {C N bk : Addr} {v : V} {E E' : XK} (h : NoAt K H C N bk v E) (f : ∀ d H', E (.ref N) d H' → E' (.ref N) d H') : NoAt K H C N bk v E' := by
  obtain ⟨dx, di, fs, kvs, hb, hm, k⟩ := h
  exact ⟨dx, di, fs, kvs, hb, hm, fun H1 d s1 hd => f _ _ (k H1 d s1 hd)⟩
def kindL (lk : Lk) (x : Str) : Str := match lk x with
  | some (k, _) => k
  | none => ""
def spReadable (K : PySem.W.Frag) (C N : Addr) : Sp := fun vs H Q E => ∃ (bk : Addr) (v : V) (ks : List Str), vs = [.ref bk, v] ++ ks.map V.str ∧ ks.length ≤ 100 ∧
  ((∃ (y : Str) (full : List Str) (lk : Lk), v = .str y ∧ BookF H C bk lk ∧ (lk y).isSome = true ∧ Ch lk [] (some y) full ∧ full.length < 1000000 ∧ (∀ z ∈ full, (lk z).isSome = true) ∧ ∀ H', Same H H' → Q (oV (full.find? fun z => decide (kindL lk z ∈ ks))) H') ∨ NoAt K H C N bk v E)
section
variable {P : Program} {w : World} {K : PySem.W.Frag} {mg : Str → Option Value} {base : Heap}
abbrev nReadable : List Str := ["book", "key", "kinds", "one"]
theorem scReadable : FnScope nReadable ((["book", "key"] : List Str) ++ [("kinds" : Str)]) (defScope sReadable) := ⟨rfl, rfl, rfl, by decide +kernel, rfl, by decide +kernel, by decide +kernel⟩
theorem ok_readable {C fG fH fC N fN fR : Addr} {fd : FuncData} (B : Bl mg) (T : BkT K mg C fG fH) (TC : ChT K mg fC) (TN : NiTxt P K mg N fN) (ns : PySem.W.subIn K (.ref N) (.type "StopIteration") = some false) (F : FnP K "readable" "readable" sReadable fR fd) :
    FnR P w K mg base (L2.CX P w) 6 fR (spReadable K C N) := by
  obtain ⟨oc, od, dV, kV, doc, pm, an, cdv, ct, osl, rfl, lk0, hcd, hdv, _⟩ := F.ex
  have e0 : dV = .none := dfl_none hdv
  subst e0
  obtain ⟨fdG, FG⟩ := T.fdG
  have main := StX.fn_star (P := P) (w := w) (mg := mg) (base := base) (k := 5) (CX := L2.CX P w) (ps := ["book", "key"]) (N := nReadable) (sp := fun vs H Q E => ∃ (bk q : Addr) (v : V) (ks : List Str), vs = [.ref bk, v, .ref q] ∧ H q = some (.tup (ks.map V.str)) ∧
    ((∃ (y : Str) (full : List Str) (lk : Lk), v = .str y ∧ BookF H C bk lk ∧ (lk y).isSome = true ∧ Ch lk [] (some y) full ∧ full.length < 1000000 ∧ (∀ z ∈ full, (lk z).isSome = true) ∧ ∀ H', Same H H' → Q (oV (full.find? fun z => decide (kindL lk z ∈ ks))) H') ∨ NoAt K H C N bk v E)) lk0 hcd scReadable StX.cxUp (StX.bind_star2 (B := fun l => bindArgs (PySem.W.fnOf "readable" "readable" (defArgs sReadable) (defBody sReadable) (defScope sReadable) .none kV doc pm an cdv ct) ⟨l, []⟩) (p1 := "book") (p2 := "key") (pv := "kinds") (fun _ _ => rfl) (fun _ _ _ _ => rfl)) fun A outer s H vs Q E hr h => ?_
  · intro A outer s H us vs Q E hr e0 r h
    refine main A outer s H us vs Q E hr e0 r ?_
    obtain ⟨bk, v, ks, rfl, hk, h⟩ := h
    refine ⟨[.ref bk, v], ks.map V.str, rfl, rfl, by rw [List.length_map]; exact Nat.le_trans hk (by decide), fun p hp => ?_⟩
    have s0 := same_new (o := .tup (ks.map V.str)) hp
    refine ⟨bk, p, v, ks, rfl, upd_same, h.imp (fun ⟨y, full, lk, e, hB, h1, h2, h3, h4, k⟩ => ⟨y, full, lk, e, BookF.same hB s0, h1, h2, h3, h4, fun H' s1 => k H' (s0.trans s1)⟩) fun z => z.keep s0⟩
  · have tk : Takes (cxOf (L2.CX P w) P w K mg base nReadable "readable" (defScope sReadable) fR cdv A outer s H E) (fun cls d _ H => E cls d H) := takes_of rfl rfl rfl rfl
    have hp : PassesOwn (model P w) (cxOf (L2.CX P w) P w K mg base nReadable "readable" (defScope sReadable) fR cdv A outer s H E).A (cxOf (L2.CX P w) P w K mg base nReadable "readable" (defScope sReadable) fR cdv A outer s H E).env (cxOf (L2.CX P w) P w K mg base nReadable "readable" (defScope sReadable) fR cdv A outer s H E).xe :=
      passes_of (X := cxOf (L2.CX P w) P w K mg base nReadable "readable" (defScope sReadable) fR cdv A outer s H E) (K := fun e s'' => L2.CX P w outer H s E e s'') rfl
    have hE1 : Passes (L2.CX P w) (cxOf (L2.CX P w) P w K mg base nReadable "readable" (defScope sReadable) fR cdv A outer s H E) (fun cls d H' => cls = .ref N ∧ E cls d H') := passes_call tk fun _ _ _ _ h => h.2
    have hns : NoStop K (fun cls d H' => cls = .ref N ∧ E cls d H') := fun cls d H' h => by rw [h.1]; exact ns
    refine ⟨_, pss_cons (ps_or
        (ps_forCh (i := 0) (j := 1) TC.gen T hr rfl (Or.inl rfl) rfl (Or.inl rfl) (pg_name (i := 3) scReadable.nd rfl (Or.inl rfl))
          (pss_one (ps_if (pt_cmpR op_in_seq (pe_ix ix_tup (pe_sub T.gG T.iG T.nG (pv 0) (pv 3) (ok_get B T TN FG) (hr.mono (by decide)) (getBinds FG) passes_never (fun _ _ => by with_unfolding_all rfl)) pe_int (fun _ _ => rfl)) (pv 2) rfl) (pss_one (ps_ret (pv 3))) pss_nil)))
        (ps_forChR (i := 0) (j := 1) TC.gen B T TN hr hp hE1 hns rfl (Or.inl rfl) rfl (Or.inl rfl)))
      (pss_one (ps_ret pe_non)), ?_⟩
    obtain ⟨bk, q, v, ks, rfl, hq, ⟨y, full, lk, rfl, hB, hy, hc, hl, hz, k⟩ | hno⟩ := h
    · refine .inl ⟨bk, y, full, lk, rfl, rfl, hB, hy, hc, hl, fun i σ H' => Same H H' ∧ (∃ x3, σ = [some (.ref bk), some (.str y), some (.ref q), x3]) ∧ ∀ z ∈ full.take i, ¬ kindL lk z ∈ ks, ⟨Same.refl _, ⟨none, rfl⟩, fun z hz => by simp at hz⟩, fun i σ H' h => BookF.same hB h.1, ?_, ?_⟩
      · rintro i x σ H' hx ⟨sm, ⟨x3, rfl⟩, hno⟩
        obtain ⟨dx, di, fs, kvs, hb, it⟩ := BookF.same hB sm
        obtain ⟨kf, hkf⟩ := Option.isSome_iff_exists.mp (hz x (List.mem_of_getElem? hx))
        obtain ⟨a, c, hv, ha⟩ := it.yes x kf.1 kf.2 hkf
        have ek : kindL lk x = kf.1 := by unfold kindL; rw [hkf]
        refine ⟨_, rfl, _, rfl, bk, dx, fs, rfl, hb.ob, bk, _, dx, di, fs, kvs, rfl, hb, .inl ⟨x, a, rfl, hv, ?_⟩⟩
        refine ⟨a, _, 1, _, rfl, rfl, .of ha, atI_nat (j := 1) rfl, _, rfl, q, _, rfl, .inr (.of (sm _ _ hq)), rfl, flat_strs', _, rfl, ?_⟩
        rw [if_neg (by decide), inV_strs, ← ek]
        refine ite2 (fun e => ?_) fun e => ?_
        · have hin := of_decide_eq_true e
          have hfd : full.find? (fun z => decide (kindL lk z ∈ ks)) = some x := by
            obtain ⟨hil, hxi⟩ := List.getElem?_eq_some_iff.mp hx
            have e1 : full = full.take i ++ x :: full.drop (i + 1) := by
              rw [← hxi, List.getElem_cons_drop, List.take_append_drop]
            rw [e1, List.find?_append]
            have e2 : (full.take i).find? (fun z => decide (kindL lk z ∈ ks)) = none := List.find?_eq_none.mpr fun z hz => by simpa using hno z hz
            rw [e2]
            simp [hin]
          have kk := k H' sm
          rw [hfd] at kk
          exact ⟨_, rfl, kk⟩
        · have hin : ¬ kindL lk x ∈ ks := fun q => e (decide_eq_true q)
          refine ⟨sm, ⟨_, rfl⟩, fun z hz' => ?_⟩
          rw [take_succ_of hx] at hz'
          rcases List.mem_append.mp hz' with hz' | hz'
          · exact hno z hz'
          · rw [List.mem_singleton.mp hz']; exact hin
      · rintro σ H' ⟨sm, ⟨x3, rfl⟩, hno⟩
        rw [List.take_length] at hno
        have kk := k H' sm
        rw [List.find?_eq_none.mpr fun z hz => by simpa using hno z hz] at kk
        exact kk
    · exact .inr ⟨bk, v, rfl, rfl, hno.imp fun d H' z => ⟨rfl, z⟩⟩
end
end K39
/-! M7 -/
set_option maxHeartbeats 4000000
/-! readable_right -/
namespace K39
open PySem PySem.Spec PyProof.Rows L2
open PySem.PyData (strOk)

theorem bookF_but {H H' : Hp} {C bk d : Addr} {lk : Lk} {m : Nat} (D : DrawOk H d m) (B : BookF H C bk lk) (b : But d H H') : BookF H' C bk lk := by
  obtain ⟨dx, di, fs, kvs, ⟨h1, h2, h3⟩, it⟩ := B
  have n1 : bk ≠ d := but_ne D h1 (by simp)
  have tk : TK H H' := TK.but b D
  have n2 : di ≠ d := fun e => by
    subst e
    obtain ⟨c, cells, a, l, u, g1, g2, _⟩ := D
    rw [h3] at g1
    cases g1
    have hv : valV [((.inr "cells" : Key), V.ref c), (.inr "at", .int a), (.inr "left", .int l), (.inr "used", .int u)] (.inr "cells") = some (.ref c) := by
      simp [valV]
    cases e : lk "cells" with
    | none =>
      have := it.no "cells" e
      rw [hv] at this
      cases this
    | some z =>
      obtain ⟨i, c', hv', hi⟩ := it.yes "cells" z.1 z.2 e
      rw [hv] at hv'
      cases hv'
      rw [g2] at hi
      cases hi
  exact ⟨dx, di, fs, kvs, ⟨b _ _ n1 h1, h2, b _ _ n2 h3⟩, itemsAre_keep it tk⟩
theorem PS.imp {X : Cx} {st : Stmt} {t t' : TS} (h : PS X st t) (f : ∀ D σ H, t' D σ H → t D σ H) : PS X st t' := ⟨fun pins s σ H D I q => h.run pins s σ H D I (f D σ H q)⟩
theorem PSs.imp {X : Cx} {st : List Stmt} {t t' : TS} (h : PSs X st t) (f : ∀ D σ H, t' D σ H → t D σ H) : PSs X st t' := ⟨fun pins s σ H D I q => h.run pins s σ H D I (f D σ H q)⟩
theorem PE.imp {X : Cx} {e : Expr} {t t' : TE} (h : PE X e t) (f : ∀ σ H Q, t' σ H Q → t σ H Q) : PE X e t' := ⟨fun pins s σ H Q I q => h.run pins s σ H Q I (f σ H Q q)⟩
section
variable {X : Cx} {CX : CXT} {k : Nat} {f : Addr} {sp : Sp} {E : XK} {x : Str} {e : Expr} {es : List Expr} {t : TA} {p pos : Pos}
def tCallR (sp : Sp) (E : XK) (t : TA) : TE := fun σ H Q => t σ H fun vs H1 => sp vs H1 Q E
/-- f(e, ..), a def by a positional promise -/
theorem pe_callFR (F : FnR X.prog X.w X.K X.mg X.base CX k f sp) (hr : Room k X.A) (hm : X.mg x = some (.ref f)) (hk : PySem.W.keepIn X.K (.ref f) = true) (hx : Passes CX X E) (ha : PA X (e :: es) t) (hg : Gl X x := by rfl) (hd : (x == ("__debug__" : Str)) = false := by decide)
    (he : starEach (e :: es) X.env = (false, eval e X.env) :: starEach es X.env := by rfl) (hpl : (backTo pos (starEach es X.env)).any (·.1) = false := by rfl) : PE X (.Call (.Name x p) (e :: es) [] pos) (tCallR sp E t) := by
  refine ⟨fun pins s σ H Q I h => ?_⟩
  refine wpAny_Call_Name_kw (ld_glob I hg hm ?_ hd)
  refine PySem.W.callWith_K (h₀ := X.base) I.ok.mod.kin hk (thn (ha.run pos pins s σ H _ I h) fun us s1 ⟨vs, H1, I1, r, q⟩ => ⟨I1.kIn, ?_⟩) he hpl
  exact wpAny_call (run_fnR F hr hx I1 r q)
end
theorem cut_take {xs : List V} {k : Nat} : cutV xs none (some (k : Int)) = xs.take k := by
  unfold cutV
  rw [HT.sIx_none, HT.sIx_nat, List.drop_zero, Nat.sub_zero]
  by_cases h : k ≤ xs.length
  · rw [Nat.min_eq_left h]
  · rw [Nat.min_eq_right (by omega), List.take_of_length_le (Nat.le_refl _), List.take_of_length_le (by omega)]
abbrev Words5 : List Str := ["table", "chapter", "sound", "figure", "other"]
theorem words_ok : ∀ x ∈ Words5, strOk x = true := by decide +kernel
theorem kindL_of {its : List Itm} {z : Str} : kindL (lkOf its) z = kindI its z := by
  unfold kindL kindI lkOf
  cases h : findI its z with
  | none => rw [show (its.find? fun t => decide (t.key = z)) = none from h]; rfl
  | some t => rw [show (its.find? fun t => decide (t.key = z)) = some t from h]; rfl
def spRight (C : Addr) : Sp := fun vs H Q _ => ∃ d bk r as its y l found m, vs = [.ref d, .ref bk, .ref r, .str y, .ref l] ∧ DrawOk H d m ∧ m < 900000 ∧ RowsAt H r as its ∧ its.length ≤ 100 ∧ (∀ t ∈ its, ItmOk t) ∧ H l = some (.lst (found.map V.str)) ∧ BookF H C bk (lkOf its) ∧
  (lkOf its y).isSome = true ∧ Ch (lkOf its) [] (some y) found ∧ found.length ≤ 100 ∧ (∀ z ∈ found, strOk z = true ∧ (findI its z).isSome = true) ∧ ∀ H', But d H H' → DrawOk H' d (m + 5) → Q (.bl true) H'
section
variable {P : Program} {w : World} {K : PySem.W.Frag} {mg : Str → Option Value} {base : Heap}
abbrev nRight : List Str := ["_law_draw", "_law_book", "_law_rows", "_law_key", "_law_found", "_law_some", "_law_told_here", "_law_word", "_law_one"]
theorem scRight : FnScope nRight ["_law_draw", "_law_book", "_law_rows", "_law_key", "_law_found"] (defScope sRight) := ⟨rfl, rfl, rfl, by decide +kernel, rfl, by decide +kernel, by decide +kernel⟩
theorem slL {K : PySem.W.Frag} {Y : Cx} (h : Y.K = K := by rfl) : SlR Y (rSlL K) := by rw [← h]; exact sl_list
/-- the last line: nothing is told that is not shown -/
def tRLast : TS := fun D σ H => ∃ (r : Addr) (as : List Addr) (its : List Itm) (l q tl : Addr) (found ws : List Str) (told : List V) (x0 x1 x3 x7 x8 : Option V), σ = [x0, x1, some (.ref r), x3, some (.ref l), some (.ref q), some (.ref tl), x7, x8] ∧ RowsAt H r as its ∧ its.length ≤ 100 ∧ (∀ t ∈ its, ItmOk t) ∧
  H l = some (.lst (found.map V.str)) ∧ H q = some (.lst (ws.map V.str)) ∧ H tl = some (.lst told) ∧ found.length ≤ 100 ∧ (∀ z ∈ found, strOk z = true ∧ (findI its z).isSome = true) ∧ (∀ v ∈ told, v = oV (shownI its found (ws.take 3))) ∧ ∀ H', Same H H' → D.rt (.bl true) H'
theorem r_last {A : Around} {outer : List Env} {s : Shared} {H : Hp} {E : XK} {f : Addr} {cdv : Value} {k : Nat} (SH : C8.Cal P w K mg base 2 "_law_shown" spShown []) (hr : Room k (A.deeper (envOfC "_law_readable_right" (defScope sRight) s.heap.objs.size f cdv))) (hk : 2 ≤ k) :
    PS (cxOf CX0 P w K mg base nRight "_law_readable_right" (defScope sRight) f cdv A outer s H E).nox ((defBody sRight).getLast (by decide)) tRLast := by
  have hu : (cxOf CX0 P w K mg base nRight "_law_readable_right" (defScope sRight) f cdv A outer s H E).nox.A.units + 64 < cLine := by
    have := hr.un
    show (A.deeper _).units + 64 < cLine
    omega
  refine PS.imp (ps_ret (pe_cmpR (op_eqD hu) (pe_lc (own := [("_law_one", 8)]) (g := gName 8) rfl scRight.nd (pi_list (pv 6)) (blkOk_by (own := [("_law_one", 8)]) (N := nRight) (sc := defScope sRight) (by decide +kernel))
      (fun _ _ _ _ _ => pg_name (i := 8) scRight.nd rfl (Or.inl rfl)) (fun _ _ _ _ _ => pts_one (pt_cmpR op_ne (pv 8) (C8.pe_c SH hr hk (by rfl) (pa_cons (pv 2) (pa_cons (pv 4) (pa_cons (pe_slice (slL (K := K)) (pv 5) po_none (po_some pe_int)) pa_nil)))) (nomark _))) (fun _ _ _ _ _ => pv 8))
    (pe_lst pa_nil) (nomark _))) ?_
  rintro D σ H' ⟨r, as, its, l, q, tl, found, ws, told, x0, x1, x3, x7, x8, rfl, hR, hl, hok, hL, hq, htl, hfl, hf, hv, k⟩
  refine ⟨_, rfl, tl, rfl, ⟨_, .of htl⟩, fun Dl hD => ?_⟩
  have s0 := same_new (o := .lst []) hD
  refine lc_list (K := K) (a := tl) (xs := told) (fun i H2 => Same H' H2 ∧ H2 Dl = some (.lst [])) ⟨s0, upd_same⟩ (fun i H2 hi h => .of (h.1 _ _ htl)) ?_ ?_
  · rintro i z H2 hi ⟨sm, hDb⟩
    have ez := hv z (List.mem_of_getElem? hi)
    refine ⟨rfl, _, rfl, _, rfl, _, rfl, _, rfl, 3, rfl, q, _, rfl, .of (sm _ _ hq), fun p hp => ?_⟩
    rw [show (3 : Int) = ((3 : Nat) : Int) from rfl, cut_take]
    have s1 := same_new (o := .lst ((ws.map V.str).take 3)) hp
    have sm1 := sm.trans s1
    refine ⟨r, as, its, l, p, found, ws.take 3, rfl, hR.keep (.same sm1), hl, hok, sm1 _ _ hL, by rw [upd_same, List.map_take], by omega, hf, fun H3 s3 => ?_⟩
    refine ⟨by rw [ez]; cases shownI its found (ws.take 3) <;> rfl, _, rfl, ?_⟩
    rw [ez, decide_eq_true rfl]
    exact ⟨sm1.trans s3, s3 _ _ (s1 _ _ hDb)⟩
  · rintro H2 ⟨sm, hDb⟩
    refine ⟨Nat.zero_le _, fun e he => ?_⟩
    have s1 := same_new (o := .lst []) he
    refine ⟨_, _, .lst (.of (s1 _ _ hDb)) .nil, .lst (.of upd_same) .nil, sh_nil, sh_nil, ?_⟩
    rw [eqv_nil]
    exact k _ (sm.trans s1)
theorem find_same {α : Type} {p q : α → Bool} {l : List α} (h : ∀ x, p x = q x) : l.find? p = l.find? q := by
  have : p = q := funext h
  rw [this]
theorem ok_right {C fG fH fC N fN fR : Addr} {fdR : FuncData} (B : Bl mg) (F : FnA K mg "_law_readable_right" sRight) (NX : C8.Cal P w K mg base 2 "_law_next" spNext []) (SH : C8.Cal P w K mg base 2 "_law_shown" spShown [])
    (R : FnR P w K mg base (L2.CX P w) 6 fR (spReadable K C N)) (mR : mg "readable" = some (.ref fR)) (kR : PySem.W.keepIn K (.ref fR) = true) : C8.Cal P w K mg base 8 "_law_readable_right" (spRight C) [] := by
  refine F.cal scRight (fun _ _ _ _ _ _ us hl => match us, hl with | [_, _, _, _, _], _ => rfl) (fun vs H Q E h => by obtain ⟨d, bk, r, as, its, y, l, found, m, rfl, _⟩ := h; rfl) fun f cdv A outer s H vs Q E hr h => ?_
  have rd : ∀ {es : List Expr} {e : Expr} {t : TA} {p pos : Pos} (ha : PA (cxOf CX0 P w K mg base nRight "_law_readable_right" (defScope sRight) f cdv A outer s H E).nox (e :: es) t) (he : starEach (e :: es) (cxOf CX0 P w K mg base nRight "_law_readable_right" (defScope sRight) f cdv A outer s H E).nox.env = (false, eval e (cxOf CX0 P w K mg base nRight "_law_readable_right" (defScope sRight) f cdv A outer s H E).nox.env) :: starEach es (cxOf CX0 P w K mg base nRight "_law_readable_right" (defScope sRight) f cdv A outer s H E).nox.env)
      (hpl : (backTo pos (starEach es (cxOf CX0 P w K mg base nRight "_law_readable_right" (defScope sRight) f cdv A outer s H E).nox.env)).any (·.1) = false), PE (cxOf CX0 P w K mg base nRight "_law_readable_right" (defScope sRight) f cdv A outer s H E).nox (.Call (.Name "readable" p) (e :: es) [] pos) (tCallR (spReadable K C N) (fun _ _ _ => False) t) :=
    fun ha he hpl => pe_callFR R (hr.mono (by decide)) mR kR passes_never ha (by rfl) (by decide) he hpl
  refine ⟨_, pss_cons (ps_set (i := 5) scRight.nd rfl (Or.inr rfl) (pe_lc (own := [("_law_word", 7)]) (g := gName 7) rfl scRight.nd (pi_tup (pe_tup (pa_cons pe_str (pa_cons pe_str (pa_cons pe_str (pa_cons pe_str (pa_cons pe_str pa_nil))))))) (blkOk_by (own := [("_law_word", 7)]) (N := nRight) (sc := defScope sRight) (by decide +kernel))
        (fun _ _ _ _ _ => pg_name (i := 7) scRight.nd rfl (Or.inl rfl)) (fun _ _ _ _ _ => pts_one (pt_cmpR op_eq (C8.pe_c NX hr (by decide) (by rfl) (pa_cons (pv 0) (pa_cons pe_int pa_nil))) pe_int (nomark _))) (fun _ _ _ _ _ => pv 7)))
    (pss_cons (ps_if (pt_cmp (pc_notN (rd (pa_cons (pv 1) (pa_cons (pv 3) pa_nil)) rfl rfl))) (pss_one (ps_ret pe_bl)) pss_nil)
    (pss_cons (ps_set (i := 6) scRight.nd rfl (Or.inl rfl) (pe_ifExp (pt_cmpR op_eq (pe_lenS B (pv 5)) pe_int (nomark _)) (pe_lst (pa_cons (rd (pa_cons (pv 1) (pa_cons (pv 3) (pa_cons (pe_ix ix_list (pv 5) pe_int (fun _ _ => rfl)) pa_nil))) rfl rfl) pa_nil)) (pe_lst pa_nil)))
    (pss_cons (ps_if (pt_cmpR op_eq (pe_lenS B (pv 5)) pe_int (nomark _)) (pss_one (ps_set (i := 6) scRight.nd rfl (Or.inl rfl) (pe_lst (pa_cons (rd (pa_cons (pv 1) (pa_cons (pv 3) (pa_cons (pe_ix ix_list (pv 5) pe_int (fun _ _ => rfl)) (pa_cons (pe_ix ix_list (pv 5) pe_int (fun _ _ => rfl)) pa_nil)))) rfl rfl) (pa_cons (rd (pa_cons (pv 1) (pa_cons (pv 3) (pa_cons (pe_ix ix_list (pv 5) pe_int (fun _ _ => rfl)) (pa_cons (pe_ix ix_list (pv 5) pe_int (fun _ _ => rfl)) pa_nil)))) rfl rfl) pa_nil))))) pss_nil)
    (pss_cons (ps_if (pt_cmpR op_gt (pe_lenS B (pv 5)) pe_int (nomark _)) (pss_one (ps_set (i := 6) scRight.nd rfl (Or.inl rfl) (pe_lst (pa_cons (rd (pa_cons (pv 1) (pa_cons (pv 3) (pa_cons (pe_ix ix_list (pv 5) pe_int (fun _ _ => rfl)) (pa_cons (pe_ix ix_list (pv 5) pe_int (fun _ _ => rfl)) (pa_cons (pe_ix ix_list (pv 5) pe_int (fun _ _ => rfl)) pa_nil))))) rfl rfl) pa_nil)))) pss_nil)
    (pss_one (r_last SH hr (by decide))))))), ?_⟩
  obtain ⟨d, bk, r, as, its, y, l, found, m, rfl, hd, hm, hR, hl, hok, hL, hB, hy, hc, hfl, hf, k⟩ := h
  refine ⟨(by show 5 ≤ sizeLine; exact small_sz (by decide)), fun T hT => ?_⟩
  refine ⟨T, rfl, ⟨_, .of upd_same⟩, fun D hD => ?_⟩
  have dT := draw_new (o := .tup (Words5.map V.str)) hT hd
  have bT : But d H (upd H T (.tup (Words5.map V.str))) := but_new hT
  have eT : (upd H T (.tup (Words5.map V.str))) T = some (.tup (Words5.map V.str)) := upd_same
  change (upd H T (.tup (Words5.map V.str))) D = none at hD
  have fD : H D = none := was_free bT dT hD
  refine lc_tup (K := K) (a := T) (xs := Words5.map V.str) (fun i H' => But d H H' ∧ DrawOk H' d (m + i) ∧ H' T = some (.tup (Words5.map V.str)) ∧ ∃ ws : List Str, H' D = some (.lst (ws.map V.str)) ∧ ws.length ≤ i) ⟨bT.trans (but_new hD), draw_new hD dT, by rw [upd_ne (ne_of_none eT hD)]; exact eT, [], upd_same, Nat.le_refl _⟩ (fun i H' hi h => .of h.2.2.1) ?_ ?_
  · rintro i z H1 hi ⟨b1, d1, t1, ws, hDb, hwl⟩
    rw [List.getElem?_map] at hi
    obtain ⟨x, hx, rfl⟩ := Option.map_eq_some_iff.mp hi
    have hi5 : i < 5 := (List.getElem?_eq_some_iff.mp hx).1
    have nT : T ≠ d := but_ne d1 t1 (by simp)
    have nD : D ≠ d := but_ne d1 hDb (by simp)
    refine ⟨rfl, _, rfl, d, 3, m + i, rfl, by decide, by decide, d1, by omega, fun H2 r2 b2 d2 lo2 hi2 => ?_⟩
    refine ⟨rfl, _, rfl, ?_⟩
    have hDb2 := b2 _ _ nD hDb
    refine ite2 (fun e => ?_) fun e => ?_
    · have dD : DrawOk (upd H2 D (.lst (ws.map V.str ++ [V.str x]))) d (m + i + 1) := draw_lst hDb2 (fun v hv i e => by cases ws <;> simp at hv; subst hv; cases e) d2
      refine ⟨_, rfl, _, hDb2, by rw [List.length_map]; exact small1000 (by omega), fun b o n eb => ?_, dD.mono (by omega), ?_, ws ++ [x], by rw [upd_same, List.map_append]; rfl, by rw [List.length_append]; show _ + 1 ≤ _; omega⟩
      · rw [upd_ne (ne_of_none eb fD)]
        exact b2 b o n (b1 b o n eb)
      · rw [upd_ne (ne_of t1 hDb (by simp))]
        exact b2 _ _ nT t1
    · exact ⟨b1.trans b2, d2.mono (by omega), b2 _ _ nT t1, ws, hDb2, by omega⟩
  · rintro H1 ⟨b1, d1, t1, ws, hDb, hwl⟩
    have hwl5 : ws.length ≤ 5 := hwl
    have nl : l ≠ d := but_ne hd hL (by simp)
    have hB1 := bookF_but hd hB b1
    have hR1 : RowsAt H1 r as its := hR.keep (TK.but b1 hd)
    have hL1 := b1 _ _ nl hL
    have call : ∀ {Hx : Hp} {ks : List Str} {Q' : VK}, Same H1 Hx → ks.length ≤ 100 → (∀ H', Same Hx H' → Q' (oV (found.find? fun z => decide (kindL (lkOf its) z ∈ ks))) H') → spReadable K C N ([.ref bk, .str y] ++ ks.map V.str) Hx Q' (fun _ _ _ => False) := fun {Hx ks Q'} sm hk kq =>
      ⟨bk, .str y, ks, rfl, hk, .inl ⟨y, found, lkOf its, rfl, BookF.same hB1 sm, hy, hc, by omega, fun z hz => by
        have := (hf z hz).2
        obtain ⟨t, ht⟩ := Option.isSome_iff_exists.mp this
        show ((its.find? _).map _).isSome = true
        rw [show (its.find? fun t => decide (t.key = z)) = some t from ht]
        rfl, kq⟩⟩
    have perm : ∀ {ks : List Str}, (∀ a, a ∈ ks ↔ a ∈ ws.take 3) → (found.find? fun z => decide (kindL (lkOf its) z ∈ ks)) = shownI its found (ws.take 3) := fun {ks} h => by
      refine find_same fun z => ?_
      rw [kindL_of, Bool.eq_iff_iff, decide_eq_true_iff, decide_eq_true_iff]
      exact h _
    have k' : ∀ H', Same H1 H' → Q (.bl true) H' := fun H' sm => k H' (b1.trans (Same.but sm)) (by
      obtain ⟨c, cells, a, l, u, h1, h2, h3⟩ := d1.mono (show m + (Words5.map V.str).length ≤ m + 5 from Nat.le_refl _)
      exact ⟨c, cells, a, l, u, sm _ _ h1, sm _ _ h2, h3⟩)
    have e0 : (found.find? fun z => decide (kindL (lkOf its) z ∈ ([] : List Str))) = none := List.find?_eq_none.mpr fun z _ => by simp
    have lenNe : ∀ {a b : Nat}, a ≠ b → ¬ (decide (V.int (a : Int) = V.int (b : Int)) = true) := fun h e => h (by
      have := of_decide_eq_true e
      injection this with this
      omega)
    have last : ∀ {Hx : Hp} {tl : Addr} {told : List V} {x7 x8 : Option V} (Dn : Ends), Dn.rt = Q → Same H1 Hx → Hx tl = some (.lst told) → (∀ v ∈ told, v = oV (shownI its found (ws.take 3))) → tRLast Dn [some (.ref d), some (.ref bk), some (.ref r), some (.str y), some (.ref l), some (.ref D), some (.ref tl), x7, x8] Hx :=
      fun {Hx tl told x7 x8} Dn hq sm htl hv => ⟨r, as, its, l, D, tl, found, ws, told, _, _, _, _, _, rfl, hR1.keep (.same sm), hl, hok, sm _ _ hL1, sm _ _ hDb, htl, hfl, hf, hv, fun H' s' => by rw [hq]; exact k' H' (sm.trans s')⟩
    refine ⟨_, rfl, _, rfl, ?_⟩
    unfold tNil
    refine call (ks := []) (Same.refl _) (by decide) fun H2 s2 => ?_
    rw [e0]
    refine ⟨_, rfl, ?_⟩
    have hD2 := s2 _ _ hDb
    match ws, hwl5 with
    | [], _ =>
      refine ⟨_, rfl, D, _, rfl, .inl (.of hD2), rfl, _, rfl, ite2 (fun e => absurd e (lenNe (a := 0) (b := 1) (by decide))) fun _ => ⟨Nat.zero_le _, fun p hp => ?_⟩⟩
      have s3 := same_new (o := .lst []) hp
      refine ⟨_, rfl, D, _, rfl, .inl (.of (s3 _ _ hD2)), rfl, _, rfl, ite2 (fun e => absurd e (lenNe (a := 0) (b := 2) (by decide))) fun _ => ?_⟩
      refine ⟨_, rfl, D, _, rfl, .inl (.of (s3 _ _ hD2)), _, _, rfl, rfl, _, rfl, ite2 (fun e => absurd (of_decide_eq_true e) (by decide)) fun _ => last _ rfl (s2.trans s3) upd_same fun v hv => by simp at hv⟩
    | [a], _ =>
      refine ⟨_, rfl, D, _, rfl, .inl (.of hD2), rfl, _, rfl, ite2 (fun _ => ?_) fun e => absurd (decide_eq_true rfl) e⟩
      refine ⟨_, rfl, _, rfl, _, rfl, D, _, 0, _, rfl, rfl, .of hD2, atI_nat (j := 0) rfl, ?_⟩
      refine call (ks := [a]) s2 (by simp) fun H3 s3 => ?_
      rw [perm (ks := [a]) fun z => Iff.rfl]
      refine ⟨(by show 1 ≤ sizeLine; exact small_sz (by decide)), fun p hp => ?_⟩
      have s4 := same_new (o := .lst [oV (shownI its found [a])]) hp
      have hD4 := s4 _ _ (s3 _ _ hD2)
      refine ⟨_, rfl, D, _, rfl, .inl (.of hD4), rfl, _, rfl, ite2 (fun e => absurd e (lenNe (a := 1) (b := 2) (by decide))) fun _ => ?_⟩
      refine ⟨_, rfl, D, _, rfl, .inl (.of hD4), _, _, rfl, rfl, _, rfl, ite2 (fun e => absurd (of_decide_eq_true e) (by show ¬ ((2 : Int) < 1); decide)) fun _ => last _ rfl ((s2.trans s3).trans s4) upd_same fun v hv => List.mem_singleton.mp hv⟩
    | [a, b], _ =>
      refine ⟨_, rfl, D, _, rfl, .inl (.of hD2), rfl, _, rfl, ite2 (fun e => absurd e (lenNe (a := 2) (b := 1) (by decide))) fun _ => ⟨Nat.zero_le _, fun p hp => ?_⟩⟩
      have s3 := same_new (o := .lst []) hp
      have hD3 := s3 _ _ hD2
      refine ⟨_, rfl, D, _, rfl, .inl (.of hD3), rfl, _, rfl, ite2 (fun _ => ?_) fun e => absurd (decide_eq_true rfl) e⟩
      refine ⟨_, rfl, _, rfl, _, rfl, D, _, 0, _, rfl, rfl, .of hD3, atI_nat (j := 0) rfl, _, rfl, D, _, 1, _, rfl, rfl, .of hD3, atI_nat (j := 1) rfl, ?_⟩
      refine call (ks := [a, b]) (s2.trans s3) (by simp) fun H4 s4 => ?_
      rw [perm (ks := [a, b]) fun z => Iff.rfl]
      have hD4 := s4 _ _ hD3
      refine ⟨_, rfl, _, rfl, _, rfl, D, _, 1, _, rfl, rfl, .of hD4, atI_nat (j := 1) rfl, _, rfl, D, _, 0, _, rfl, rfl, .of hD4, atI_nat (j := 0) rfl, ?_⟩
      refine call (ks := [b, a]) ((s2.trans s3).trans s4) (by simp) fun H5 s5 => ?_
      rw [perm (ks := [b, a]) fun z => by simp [or_comm]]
      refine ⟨(by show 2 ≤ sizeLine; exact small_sz (by decide)), fun p2 hp2 => ?_⟩
      have s6 := same_new (o := .lst [oV (shownI its found [a, b]), oV (shownI its found [a, b])]) hp2
      have hD6 := s6 _ _ (s5 _ _ hD4)
      refine ⟨_, rfl, D, _, rfl, .inl (.of hD6), _, _, rfl, rfl, _, rfl, ite2 (fun e => absurd (of_decide_eq_true e) (by show ¬ ((2 : Int) < 2); decide)) fun _ => last _ rfl ((((s2.trans s3).trans s4).trans s5).trans s6) upd_same fun v hv => ?_⟩
      rcases List.mem_cons.mp hv with rfl | hv
      · rfl
      · exact List.mem_singleton.mp hv
    | a :: b :: c :: rest, _ =>
      refine ⟨_, rfl, D, _, rfl, .inl (.of hD2), rfl, _, rfl, ite2 (fun e => absurd e (lenNe (by simp))) fun _ => ⟨Nat.zero_le _, fun p hp => ?_⟩⟩
      have s3 := same_new (o := .lst []) hp
      have hD3 := s3 _ _ hD2
      refine ⟨_, rfl, D, _, rfl, .inl (.of hD3), rfl, _, rfl, ite2 (fun e => absurd e (lenNe (by simp))) fun _ => ?_⟩
      refine ⟨_, rfl, D, _, rfl, .inl (.of hD3), _, _, rfl, rfl, _, rfl, ite2 (fun _ => ?_) fun e => absurd (decide_eq_true (by simp; omega)) e⟩
      refine ⟨_, rfl, _, rfl, _, rfl, D, _, 2, _, rfl, rfl, .of hD3, atI_nat (j := 2) rfl, _, rfl, D, _, 0, _, rfl, rfl, .of hD3, atI_nat (j := 0) rfl, _, rfl, D, _, 1, _, rfl, rfl, .of hD3, atI_nat (j := 1) rfl, ?_⟩
      refine call (ks := [c, a, b]) (s2.trans s3) (by simp) fun H4 s4 => ?_
      rw [perm (ks := [c, a, b]) fun z => by simp only [List.take_succ_cons, List.take_zero, List.mem_cons, List.not_mem_nil, or_false]; exact ⟨fun h => by rcases h with h | h | h <;> simp [h], fun h => by rcases h with h | h | h <;> simp [h]⟩]
      refine ⟨(by show 1 ≤ sizeLine; exact small_sz (by decide)), fun p2 hp2 => ?_⟩
      have s6 := same_new (o := .lst [oV (shownI its found ((a :: b :: c :: rest).take 3))]) hp2
      exact last _ rfl (((s2.trans s3).trans s4).trans s6) upd_same fun v hv => List.mem_singleton.mp hv
end
end K39
/-! Mx -/
/-! the chain of the rows: it is there, it is good -/
namespace K39
open PySem PySem.Spec PyProof.Rows L2

/-- the keys that were not seen yet -/
def left (keys seen : List Str) : Nat := (keys.filter fun k => decide (k ∉ seen)).length
theorem left_le (keys seen : List Str) (x : Str) : left keys (seen ++ [x]) ≤ left keys seen := by
  unfold left
  induction keys with
  | nil => exact Nat.le_refl _
  | cons k r ih =>
    by_cases h1 : k ∈ seen
    · have h2 : k ∈ seen ++ [x] := List.mem_append_left _ h1
      simp only [List.filter_cons, h1, h2, not_true_eq_false, decide_false, Bool.false_eq_true, if_false]
      exact ih
    · by_cases h2 : k ∈ seen ++ [x]
      · simp only [List.filter_cons, h1, h2, not_true_eq_false, not_false_eq_true, decide_false, decide_true, Bool.false_eq_true, if_false, if_true, List.length_cons]
        exact Nat.le_succ_of_le ih
      · simp only [List.filter_cons, h1, h2, not_false_eq_true, decide_true, if_true, List.length_cons]
        exact Nat.succ_le_succ ih
theorem left_lt {keys seen : List Str} {x : Str} (hx : x ∈ keys) (hn : x ∉ seen) : left keys (seen ++ [x]) < left keys seen := by
  unfold left
  induction keys with
  | nil => cases hx
  | cons k r ih =>
    have le := left_le r seen x
    unfold left at le
    by_cases hk : k = x
    · subst hk
      have h2 : k ∈ seen ++ [k] := List.mem_append_right _ (List.mem_singleton.mpr rfl)
      simp only [List.filter_cons, hn, h2, not_true_eq_false, not_false_eq_true, decide_false, decide_true, Bool.false_eq_true, if_false, if_true, List.length_cons]
      exact Nat.lt_succ_of_le le
    · have ih' := ih ((List.mem_cons.mp hx).resolve_left fun e => hk e.symm)
      by_cases h1 : k ∈ seen
      · have h2 : k ∈ seen ++ [x] := List.mem_append_left _ h1
        simp only [List.filter_cons, h1, h2, not_true_eq_false, decide_false, Bool.false_eq_true, if_false]
        exact ih'
      · have h2 : k ∉ seen ++ [x] := fun h => by
          rcases List.mem_append.mp h with h | h
          · exact h1 h
          · exact hk (List.mem_singleton.mp h)
        simp only [List.filter_cons, h1, h2, not_false_eq_true, decide_true, if_true, List.length_cons]
        exact Nat.succ_lt_succ ih'
theorem goOn_some {lk : Lk} {seen : List Str} {x : Str} (h : goOn lk seen (some x) = true) : (lk x).isSome = true ∧ x ∉ seen := by
  unfold goOn at h
  rw [Bool.and_eq_true] at h
  exact ⟨h.1, by simpa using h.2⟩
theorem goOn_of {lk : Lk} {seen : List Str} {x : Str} (h : (lk x).isSome = true) (n : x ∉ seen) : goOn lk seen (some x) = true := by
  unfold goOn
  rw [Bool.and_eq_true]
  exact ⟨h, by simpa using n⟩
theorem ch_ex {lk : Lk} {keys : List Str} (hk : ∀ x, (lk x).isSome = true → x ∈ keys) : ∀ (n : Nat) (seen : List Str) (here : Option Str), left keys seen ≤ n → ∃ ys, Ch lk seen here ys ∧ ys.length ≤ left keys seen := by
  intro n
  induction n with
  | zero =>
    intro seen here hl
    cases hg : goOn lk seen here with
    | false => exact ⟨[], .stop hg, Nat.zero_le _⟩
    | true =>
      cases here with
      | none => cases hg
      | some x =>
        obtain ⟨h1, h2⟩ := goOn_some hg
        have := left_lt (hk x h1) h2
        omega
  | succ n ih =>
    intro seen here hl
    cases hg : goOn lk seen here with
    | false => exact ⟨[], .stop hg, Nat.zero_le _⟩
    | true =>
      cases here with
      | none => cases hg
      | some x =>
        obtain ⟨h1, h2⟩ := goOn_some hg
        have lt := left_lt (hk x h1) h2
        obtain ⟨⟨k, fb⟩, hlk⟩ := Option.isSome_iff_exists.mp h1
        obtain ⟨ys, hc, hlen⟩ := ih (seen ++ [x]) fb (by omega)
        exact ⟨x :: ys, .go hg hlk hc, by show ys.length + 1 ≤ _; omega⟩
theorem ch_ok {lk : Lk} {seen : List Str} {here : Option Str} {ys : List Str} (h : Ch lk seen here ys) : ys.Nodup ∧ ∀ y ∈ ys, (lk y).isSome = true ∧ y ∉ seen := by
  induction h with
  | stop h => exact ⟨List.nodup_nil, fun y hy => by cases hy⟩
  | go hg hlk _ ih =>
    obtain ⟨h1, h2⟩ := goOn_some hg
    refine ⟨List.nodup_cons.mpr ⟨fun hx => (ih.2 _ hx).2 (List.mem_append_right _ (List.mem_singleton.mpr rfl)), ih.1⟩, fun y hy => ?_⟩
    rcases List.mem_cons.mp hy with rfl | hy
    · exact ⟨h1, h2⟩
    · exact ⟨(ih.2 y hy).1, fun hs => (ih.2 y hy).2 (List.mem_append_left _ hs)⟩
theorem ch_head {lk : Lk} {seen : List Str} {x : Str} {ys : List Str} (h : Ch lk seen (some x) ys) (hg : goOn lk seen (some x) = true) : ys.head? = some x := by
  cases h with
  | stop h => rw [hg] at h; cases h
  | go => rfl
theorem lkOf_some {its : List Itm} {x : Str} : (lkOf its x).isSome = (findI its x).isSome := by
  show ((its.find? _).map _).isSome = (its.find? _).isSome
  rw [Option.isSome_map]
theorem lkOf_eq {its : List Itm} {x k : Str} {fb : Option Str} (h : lkOf its x = some (k, fb)) : ∃ t, findI its x = some t ∧ t.kind = k ∧ t.goal = fb := by
  obtain ⟨t, ht, e⟩ := Option.map_eq_some_iff.mp (show (its.find? fun t => decide (t.key = x)).map (fun t => (t.kind, t.goal)) = some (k, fb) from h)
  exact ⟨t, ht, by injection e, by injection e⟩
theorem nxI_none {its : List Itm} {x k : Str} (h : lkOf its x = some (k, none)) : nxI its x = "" := by
  obtain ⟨t, ht, _, hg⟩ := lkOf_eq h
  unfold nxI
  rw [ht]
  simp only
  rw [hg]
theorem nxI_some {its : List Itm} {x k g : Str} (h : lkOf its x = some (k, some g)) : nxI its x = if (lkOf its g).isSome then g else "" := by
  obtain ⟨t, ht, _, hg⟩ := lkOf_eq h
  unfold nxI
  rw [ht]
  simp only
  rw [hg, lkOf_some]
theorem ch_step {its : List Itm} {seen : List Str} {here : Option Str} {ys : List Str} (h : Ch (lkOf its) seen here ys) : ∀ (i : Nat) (a b : Str), ys[i]? = some a → ys[i + 1]? = some b → nxI its a = b := by
  induction h with
  | stop h => intro i a b ha; simp at ha
  | go hg hlk hc ih =>
    intro i a b ha hb
    cases i with
    | zero =>
      simp only [List.getElem?_cons_zero, Option.some.injEq] at ha
      subst ha
      rw [List.getElem?_cons_succ] at hb
      cases hc with
      | stop _ => simp at hb
      | go hg2 hlk2 _ =>
        simp only [List.getElem?_cons_zero, Option.some.injEq] at hb
        subst hb
        rw [nxI_some hlk, if_pos (goOn_some hg2).1]
    | succ i =>
      rw [List.getElem?_cons_succ] at ha hb
      exact ih i a b ha hb
theorem ch_last {its : List Itm} {seen : List Str} {here : Option Str} {ys : List Str} (h : Ch (lkOf its) seen here ys) : ∀ a, ys.getLast? = some a → nxI its a = "" ∨ nxI its a ∈ seen ++ ys := by
  induction h with
  | stop h => intro a ha; cases ha
  | @go seen x k fb ys hg hlk hc ih =>
    intro a ha
    cases ys with
    | nil =>
      simp only [List.getLast?_singleton, Option.some.injEq] at ha
      subst ha
      cases hc with
      | stop hs =>
        cases fb with
        | none => exact .inl (nxI_none hlk)
        | some g =>
          rw [nxI_some hlk]
          by_cases hg1 : (lkOf its g).isSome = true
          · rw [if_pos hg1]
            refine .inr ?_
            by_cases hm : g ∈ seen ++ [x]
            · exact hm
            · rw [goOn_of hg1 hm] at hs
              cases hs
          · rw [if_neg hg1]
            exact .inl rfl
    | cons y r =>
      rw [List.getLast?_cons_cons] at ha
      have := ih a ha
      rw [List.append_assoc] at this
      exact this
/-- the chain of an item's id -/
theorem chain_of {its : List Itm} {x : Str} (hl : its.length ≤ 12) (hok : ∀ t ∈ its, ItmOk t) (hx : x ∈ its.map Itm.key) : (lkOf its x).isSome = true ∧ ∃ full, Ch (lkOf its) [] (some x) full ∧ full.length ≤ 12 ∧ GoodCh its x full := by
  have mem : ∀ y, y ∈ its.map Itm.key → (lkOf its y).isSome = true := fun y hy => by
    obtain ⟨t, ht, rfl⟩ := List.mem_map.mp hy
    rw [lkOf_some]
    show (its.find? _).isSome = true
    rw [List.find?_isSome]
    exact ⟨t, ht, decide_eq_true rfl⟩
  have inn : ∀ y, (lkOf its y).isSome = true → y ∈ its.map Itm.key := fun y hy => by
    rw [lkOf_some] at hy
    obtain ⟨t, ht⟩ := Option.isSome_iff_exists.mp hy
    obtain ⟨h1, h2⟩ := findI_mem ht
    exact List.mem_map.mpr ⟨t, h1, h2⟩
  obtain ⟨full, hc, hlen⟩ := ch_ex (lk := lkOf its) (keys := its.map Itm.key) inn _ [] (some x) (Nat.le_refl _)
  have hll : left (its.map Itm.key) [] ≤ 12 := by
    unfold left
    exact Nat.le_trans (List.length_filter_le _ _) (by rw [List.length_map]; exact hl)
  obtain ⟨nd, hall⟩ := ch_ok hc
  refine ⟨mem x hx, full, hc, Nat.le_trans hlen hll, ⟨ch_head hc (goOn_of (mem x hx) (by simp)), nd, fun y hy => ?_, ch_step hc, fun a ha => by simpa using ch_last hc a ha, by omega⟩⟩
  have h1 := (hall y hy).1
  refine ⟨?_, by rw [← lkOf_some]; exact h1⟩
  obtain ⟨t, ht, rfl⟩ := List.mem_map.mp (inn y h1)
  exact (hok t ht).1
/-- of no item: what is no id, what was not drawn -/
theorem lk_none {its : List Itm} {x : Str} (h : ∀ t ∈ its, t.key ≠ x) : lkOf its x = none := by
  show (its.find? _).map _ = none
  rw [List.find?_eq_none.mpr fun t ht => by simpa using h t ht]
  rfl
end K39
/-! Ty -/
set_option maxHeartbeats 4000000
/-! try .. except X as n: the error is kept -/
namespace K39
open PySem PySem.Spec PyProof.Rows L2

/-- an error of this class and dict stands at a -/
def ErrO (cls : Value) (d : Option Addr) (a : Addr) : HO := .ext fun h => ∃ (oe : Obj) (vs : Array Value), h.get? a = some oe ∧ Zc cls d oe ∧ oe.data = .fields vs
theorem errO_ok {P : Program} {w : World} {H : Hp} {h : Heap} {a : Addr} {cls : Value} {d : Option Addr} {oe : Obj} {vs : Array Value} (e : h.get? a = some oe) (z : Zc cls d oe) (dt : oe.data = .fields vs) : ObjOk P w H h a (ErrO cls d a) :=
  ⟨⟨oe, vs, e, z, dt⟩, ⟨oe, e⟩, fun h1 h2 ⟨oe, vs, a, b, c⟩ st => ⟨oe, vs, st _ a, b, c⟩⟩
/-- what the clause wishes of an exception of the body: slot i is the name's -/
def wKept (K : PySem.W.Frag) (c : Value) (i : Nat) (ts : TS) (Wout : WX) (D : Ends) : WX := fun cls d σ H =>
  ∃ b, PySem.W.exmOne K cls c = some b ∧ (b = true → ∀ a, H a = none → ts { nx := fun σ' H' => D.nx (σ'.set i none) H', rt := D.rt, bk := fun σ' H' => D.bk (σ'.set i none) H', ct := fun σ' H' => D.ct (σ'.set i none) H' } (σ.set i (some (.ref a))) (upd H a (ErrO cls d a))) ∧
    (b = false → Wout cls d σ H)
section
variable {X : Cx} {x n : Str} {c : Value} {i : Nat} {body suite : List Stmt} {b₀ : Stmt} {np pos pos' : Pos} {tb : WX → TS} {ts : TS} {Wout : WX} {pins : List (Addr × Obj)} {σ : L2.St} {H : Hp} {s : Shared}
theorem inv_suite {a : Addr} (I : Inv X pins σ H s) : Inv (X.suite a (X.pn ++ pins)) [] σ H s :=
  ⟨I.ok.suite _ _, I.os, I.bare, I.base, I.loc, I.cell, I.free, I.freeC, fun p hp => I.pin p (by rw [List.append_nil] at hp; exact hp), I.hok, I.len⟩
theorem inv_unsuite {a : Addr} {pn' : List (Addr × Obj)} (I : Inv (X.suite a (X.pn ++ pins)) pn' σ H s) (ok : X.Ok) : Inv X pins σ H s :=
  ⟨ok, I.os, I.bare, I.base, I.loc, I.cell, I.free, I.freeC, fun p hp => I.pin p (List.mem_append_left _ hp), I.hok, I.len⟩
/-- back on the ground, the error tracked -/
theorem inv_caught {sI s' : Shared} {B h4 : Heap} {a : Addr} {cls : Value} {d : Option Addr} {oe : Obj} {vs : Array Value} (I : Inv X pins σ H sI) (nb : ∀ b o, sI.heap.get? b = some o → b ∉ frs X.stack → B.get? b = some o) (st : B.StaysIn h4) (up : sI.heap.UpToSlots h4) (os : s'.os = sI.os) (ag : AllBare s'.gens)
    (nB : B.get? a = none) (nfr : a ∉ frs X.stack) (na : H a = none) (e : h4.get? a = some oe) (z : Zc cls d oe) (dt : oe.data = .fields vs) : Inv X pins σ (upd H a (ErrO cls d a)) { s' with heap := h4 } := by
  have nSI : ∀ o, sI.heap.get? a ≠ some o := fun o q => by
    have := nb a o q nfr
    rw [nB] at this
    cases this
  have nf : ∀ b ∈ frs X.stack, ∀ o, sI.heap.get? b = some o → ∃ sl, h4.get? b = some { o with slots := sl } := fun b hb o e => by
    obtain ⟨_, o', e', hd⟩ := I.stack.mem hb
    rw [e] at e'; cases e'
    exact up b o e hd
  have ne : ∀ {b o}, sI.heap.get? b = some o → b ≠ a := fun {b o} q z => nSI o (by rw [← z]; exact q)
  have J := I.call (ch := []) (h' := h4) (g' := s'.gens) (t' := s'.toks) (d' := s'.drawn) (H' := upd H a (ErrO cls d a))
    ⟨fun b o e _ hb _ => st b o (nb b o e hb), fun b o e _ hb _ => nf b hb o e, fun b o q n _ => by rw [upd_ne (ne q)]; exact n, fun b o e _ => by
      by_cases hb : b ∈ frs X.stack
      · obtain ⟨sl, q⟩ := nf b hb o e
        exact ⟨_, q⟩
      · exact ⟨o, st b o (nb b o e hb)⟩, fun b xs q => by rw [upd_ne (ne_of_none q na)]; exact q, fun b o u q => by rw [upd_ne (ne_of_none q na)]; exact q, fun b ps q => ⟨#[], by rw [upd_ne (ne_of_none q na), q]; simp⟩⟩
    (fun b u q => by
      by_cases hb : b = a
      · subst hb
        rw [upd_same] at q
        cases q
        exact errO_ok e z dt
      · rw [upd_ne hb] at q
        exact (((I.inGround nb).kept st) b u q).stay (fun _ _ _ z => z) (fun d z => by rw [upd_ne (ne_of_none z na)]; exact z) fun d xs z => by rw [upd_ne (ne_of_none z na)]; exact z) ag (fun _ z => nomatch z)
  obtain ⟨a1, a2, a3, a4, a5⟩ := s'
  have e5 : a5 = sI.os := os
  subst e5
  exact J
theorem ps_try_kept (hs : X.stack = X.env :: X.outer) (hf : X.env.frame = some X.env.locals) (hN : X.N.Nodup) (hi : X.N[i]? = some n) (hln : X.env.kindOf n = some .local) (hc : Names X x c) (tk : Takes X Wout)
    (hb : ∀ (W : WX) (pn : List (Addr × Obj)) (xe : Value → Shared → Prop), Takes (X.tr pn xe) W → PassesOwn (model X.prog X.w) X.A X.env xe → PSs (X.tr pn xe) body (tb W))
    (hsu : ∀ (a : Addr) (pn : List (Addr × Obj)), PSs (X.suite a pn) (b₀ :: suite) ts) :
    PS X (.Try body [.ExceptHandler (some (.Name x np)) (some n) (b₀ :: suite) pos'] [] [] pos) (fun D σ H => tb (wKept X.K c i ts Wout D) D σ H) := by
  refine ⟨fun pins s σ H D I h => ?_⟩
  have ok := I.ok
  have hfr : X.A.frames = some (X.env :: X.outer) := by rw [ok.frames, hs]
  have hloc : Loc X.env.scope n := .inl hln
  refine wpAny_Try_except ?_
  refine wpAny_mono ((hb (wKept X.K c i ts Wout D) (X.pn ++ pins) (fun e s₁ => wpAny (model X.prog X.w) X.A (noteFrame e X.env) (fun _ s₂ => wpAny (model X.prog X.w) X.A (setFlight e none) (fun _ s₃ =>
    wpAny (model X.prog X.w) X.A (handleBy e X.env [.ExceptHandler (some (.Name x np)) (some n) (b₀ :: suite) pos']) (SP X pins D) X.xe s₃) X.xe s₂) X.xe s₁) (fun u s' xx => ?_) PassesOwn.looking).run [] s σ H D (I.toTry _) h) (fun f s1 hsp => ?_) (fun e s1 he => he)
  · obtain ⟨a, B, sI, pins', σ', H', cls, d, rfl, J', nb, up, sky, na, os, ag, b, hb1, hyes, hno⟩ := xx
    have J : Inv X pins σ' H' sI := J'.ofTry ok
    have sky' : Sky B (X.env :: X.outer) a (Zc cls d) X.env.locals s'.heap := by rw [← hs]; exact sky
    show wpAny (model X.prog X.w) X.A (noteFrame (.ref a) X.env) _ _ _
    refine Sky.land Zc.steady hfr hf sky' fun h3 fl3 up3 => ?_
    obtain ⟨oe3, vs3, he3, hz3, hd3⟩ := fl3.there
    have notFr : ∀ {h : Heap} {o : Obj} {vs : Array Value}, h.FunFrames B (X.env :: X.outer) → h.get? a = some o → o.data = .fields vs → a ∉ frs (X.env :: X.outer) := fun {h o vs} ff e dd hm => by
      obtain ⟨_, o', e', hnf⟩ := ff.mem hm
      rw [e] at e'; cases e'
      exact hnf _ dd
    have nfr : a ∉ frs X.stack := by rw [hs]; exact notFr fl3.2.2.1 he3 hd3
    have S3 := inv_suite (a := a) (inv_caught J nb fl3.1 (up.trans up3) os ag fl3.2.1 nfr na he3 hz3 hd3)
    refine wpAny_handleBy_cons (codeAny_handlers_test ?_) (by intro q; cases q)
    have LT : PySem.W.Looks (model X.prog X.w) h3 (typeOf (.ref a)) cls := fun A Q E s k q => wpAny_typeOf_ref (k _ _ he3) (by rw [hz3.1]; exact q)
    have LM := PySem.W.exm_one (M := model X.prog X.w) (S3.kIn) LT hb1
    have test : ∀ {Q : Value → Shared → Prop} {E : Value → Shared → Prop}, Q c { s' with heap := h3 } → wpAny (model X.prog X.w) (X.A.mark (some (.ref a))) (eval (.Name x np) X.env) Q E { s' with heap := h3 } := fun {Q E} q => by
      obtain ⟨hg, hdbg, hm | ⟨hm, hv, hnn⟩⟩ := hc
      · exact ld_glob (X := X.suite a (X.pn ++ pins)) S3 hg hm q hdbg
      · exact ld_blt (X := X.suite a (X.pn ++ pins)) S3 hg hm hv q hnn hdbg
    refine test (LM.here ?_)
    cases b with
    | true =>
      refine codeAny_handlers_suite_as ?_
      refine HandSPX.lands_againZ fl3 fun h4 fl4 up4 => ?_
      obtain ⟨oe4, vs4, he4, hz4, hd4⟩ := fl4.there
      have S4 := inv_suite (a := a) (inv_caught J nb fl4.1 ((up.trans up3).trans up4) os ag fl4.2.1 nfr na he4 hz4 hd4)
      refine store_ok (X := X.suite a (X.pn ++ pins)) (v := .ref a) S4 hN hi hloc rfl (fun s5 S5 => ?_) (.inr hln)
      refine wpAny_mono ((hsu a (X.pn ++ pins)).run [] s5 _ _ _ S5 (hyes rfl a na)) (fun f s6 hsp => ?_) (fun _ _ z => False.elim z)
      have end_ : ∀ {σ6 : L2.St} {H6 : Hp} {Q : Shared → Prop}, Inv (X.suite a (X.pn ++ pins)) [] σ6 H6 s6 → (∀ s7, Inv X pins (σ6.set i none) H6 s7 → Q s7) →
          wpAny (model X.prog X.w) X.A (do bindName X.env n .none; unbindBehindTheSuite X.env n pos') (fun _ s7 => Q s7) X.xe s6 := fun {σ6 H6 Q} S6 hq => gone_ok (inv_unsuite S6 ok) hN hi hln hq
      cases f with
      | next =>
        obtain ⟨σ6, H6, S6, q6⟩ := hsp
        exact end_ S6 fun s7 J7 => ⟨_, _, J7, q6⟩
      | brk =>
        obtain ⟨σ6, H6, S6, q6⟩ := hsp
        exact end_ S6 fun s7 J7 => ⟨_, _, J7, q6⟩
      | cont =>
        obtain ⟨σ6, H6, S6, q6⟩ := hsp
        exact end_ S6 fun s7 J7 => ⟨_, _, J7, q6⟩
      | ret u =>
        obtain ⟨v6, σ6, H6, S6, r6, q6⟩ := hsp
        exact end_ S6 fun s7 J7 => ⟨_, _, _, J7, r6, q6⟩
    | false =>
      show wpAny _ X.A (handleBy (.ref a) X.env []) _ _ _
      refine wpAny_handleBy_nil ?_
      obtain ⟨k1, k2, k3, oe, vs, T, oT, ts', he, hz, hd, h1, hr⟩ := id fl3
      unfold PySem.passOn
      refine wpAny_bind (wpAny_field he hd h1 ?_)
      rw [if_neg (show ¬ ((Value.ref T == Value.none) = true) from by simp)]
      have fin : wpAny (model X.prog X.w) X.A (setFlight (.ref a) X.env.frame) (fun _ s4 => wpAny (model X.prog X.w) X.A (throw (.ref a) : Sem Flow) (SP X pins D) X.xe s4) X.xe { s' with heap := h3 } := by
        rw [hf]
        refine HandSPX.setFlight_upZ fl3 fun h4 hh4 up4 => wpAny_throw (tk _ _ ?_)
        exact ⟨a, B, sI, pins, σ', H', cls, d, rfl, J, nb, (up.trans up3).trans up4, .inr (.inr (by rw [hs]; exact hh4)), na, os, ag, hno rfl⟩
      first
        | exact wpAny_bind (wpAny_pure (wpAny_bind fin))
        | exact wpAny_bind fin
  · cases f with
    | next =>
      obtain ⟨σ', H', J', q⟩ := hsp
      exact wpAny_execs_nil ⟨σ', H', J'.ofTry ok, q⟩
    | brk =>
      obtain ⟨σ', H', J', q⟩ := hsp
      exact ⟨σ', H', J'.ofTry ok, q⟩
    | cont =>
      obtain ⟨σ', H', J', q⟩ := hsp
      exact ⟨σ', H', J'.ofTry ok, q⟩
    | ret u =>
      obtain ⟨v, σ', H', J', r, q⟩ := hsp
      exact ⟨v, σ', H', J'.ofTry ok, r, q⟩
end
end K39
/-! Is -/
set_option maxHeartbeats 4000000
/-! a kept error: isinstance, its field -/
namespace K39
open PySem PySem.Spec PySem.Calls PyProof.Rows L2

section
variable {prog : Program} {w : World} {A : Around} {E : Value → Shared → Prop} {s : Shared} {K : PySem.W.Frag} {x D : Addr} {ox od : Obj}
/-- e.__class__, e an error with a dict of its own -/
theorem err_class {Q : Option Value → Shared → Prop} (C : ExcC K D) (X : K.In s.heap) (I : PySem.W.InstAt s.heap x ox D (some od)) (h : Q (some (.ref D)) { s with toks := s.toks + 1 }) : wpAny (model prog w) A (getAttr? (.ref x) "__class__") Q E s := by
  have hcls : (PySem.W.clsIn K D).isSome = true := by obtain ⟨cd, hc, _⟩ := PySem.W.any_some C.hd; rw [hc]; rfl
  have hf : PySem.W.findObj K D (some od) "__class__" = some (.bind (.builtin "getset_descriptor.__get__") (.builtin "object.__class__")) := PySem.W.findObj_data hcls C.ha C.hn C.ht
  obtain ⟨hp, g, d, t, os⟩ := s
  have L0 := I.type (M := model prog w)
  have L1 := PySem.W.looks_findIn (M := model prog w) X C.hg
  have L2 := PySem.W.looks_findIn (M := model prog w) X C.hk
  have L3 := PySem.W.looks_find (M := model prog w) X I hf
  have sub : PySem.W.Looks (model prog w) hp (isInstance (.ref x) (.type "BaseException")) true := L0.andThen (PySem.W.looks_subIn X C.hs)
  have hx0 : (false && onTheHeap (Value.builtin "BaseException.__getattribute__")) = false := rfl
  have hx2 : (Value.builtin "BaseException.__getattribute__" == Value.builtin "object.__getattribute__") = false := by decide +kernel
  have hx1 : (onTheHeap (Value.ref D) && Value.builtin "BaseException.__getattribute__" == Value.builtin "object.__getattribute__") = false := by rw [hx2]; rfl
  unfold getAttr? getAttrBy? getAttrBy
  refine wpAny_bind (wpAny_mkText (wpAny_bind (wpAny_attempt (wpAny_holding (wpAny_bind (L0.at (wpAny_bind (L1.at ?_))))))))
  show wpAny _ _ (if (onTheHeap (Value.ref D) && Value.builtin "BaseException.__getattribute__" == Value.builtin "object.__getattribute__") = true then _ else _) _ _ _
  rw [hx1, if_neg Bool.false_ne_true]
  unfold getAttrByItsOwn hookBefore
  refine wpAny_bind ?_
  rw [if_pos (show onTheHeap (Value.ref D) = true from rfl)]
  refine L2.at ?_
  refine wpAny_bind (wpAny_attempt (wpAny_holding ?_))
  unfold callGetattribute
  rw [hx0, if_neg Bool.false_ne_true]
  unfold boundAndCalled
  rw [PySem.F.excAttr_ValueError.ga.bind (.ref x)]
  refine wpAny_bind (wpAny_pure ?_)
  show wpAny _ _ (call (.builtin "BaseException.__getattribute__") [.ref x, .str "__class__" t]) _ _ _
  refine wpAny_call (codeAny_call_builtin PySem.F.excAttr_ValueError.ga.plain PySem.F.entry_bexc_ga ?_)
  refine @PySem.W.check_slot (model prog w) _ _ ⟨hp, g, d, t + 1, os⟩ "BaseException.__getattribute__" "BaseException" "__getattribute__" (.ref x) [.str "__class__" t] [] _ (by decide +kernel) (by decide +kernel) sub (PySem.F.args_bexc_ga (.ref x) (.str "__class__" t)) ?_
  unfold Builtin.«object.__getattribute__»
  refine wpAny_bind (wpAny_of_eq (a := ((Value.ref x : Value), [Value.str "__class__" t])) (by first | rfl | (simp only [slotArgs]; rfl)) ?_)
  refine wpAny_bind (wpAny_pure (wpAny_bind (L0.at (wpAny_bind (L3.at ?_)))))
  show wpAny _ _ (holding [Value.builtin "object.__class__"] (call (.builtin "getset_descriptor.__get__") [.builtin "object.__class__", .ref x, .ref D]) >>= ret) _ _ _
  refine wpAny_bind (wpAny_holding (wpAny_call (PySem.W.class_get (s := ⟨hp, g, d, t + 1, os⟩) (ox := ox) (od := some od) X I C.hm ?_)))
  refine wpAny_pure ?_
  show wpAny _ _ (handedOut (.ref D)) _ _ _
  rw [PySem.W.handedOut_of (v := .ref D) rfl]
  first
    | exact wpAny_pure (wpAny_pure h)
    | exact wpAny_pure h
    | exact wpAny_pure (wpAny_bind (wpAny_pure (wpAny_pure h)))
theorem err_kit (C : ExcC K D) : PySem.W.KitX K (.ref x) (.ref D) (fun h => PySem.W.InstAt h x ox D (some od)) where
  ty := fun _ _ _ I => I.type
  it := fun _ _ X _ => by
    obtain ⟨cdD, hcD, _⟩ := PySem.W.any_some C.hd
    unfold PySem.W.clsIn at hcD
    split at hcD
    · rename_i c' d' cd' sl' ho
      intro A' Q' E' s' k q
      unfold isType loadHead
      exact wpAny_bind (wpAny_loadPart (k _ _ (X _ _ ho)) (wpAny_pure q))
    · cases hcD
  ne := fun h tp dd its n sl X htp => by
    obtain ⟨cdD, hcD, _⟩ := PySem.W.any_some C.hd
    refine Bool.eq_false_iff.mpr fun q => ?_
    have e : D = tp := Value.ref.inj (beq_iff_eq.mp q)
    subst e
    unfold PySem.W.clsIn at hcD
    split at hcD
    · rename_i c' d' cd' sl' ho
      have z := (X _ _ ho).symm.trans htp
      cases z
    · cases hcD
  ca := fun X I k => err_class C X I k
end
/-- the error at a: of the class N, its only attribute the key -/
def ErrAt (H : Hp) (N a d : Addr) (v : V) : Prop := H a = some (ErrO (.ref N) (some d) a) ∧ H d = some (.xd [(("key" : Str), v)])
section
variable {X : Cx} {pins : List (Addr × Obj)} {σ : L2.St} {H : Hp} {s : Shared}
theorem err_inst {N a d : Addr} {v : V} (I : Inv X pins σ H s) (h : ErrAt H N a d v) : ∃ ox od, PySem.W.InstAt s.heap a ox N (some od) ∧ ∃ u, PySem.W.lookIn "key" od = some (some u) ∧ RelV v u := by
  obtain ⟨⟨oe, vs, e1, e2, e3⟩, _⟩ := (show ObjOk X.prog X.w H s.heap a (ErrO (.ref N) (some d) a) from I.hok _ _ h.1)
  obtain ⟨mA, hns, hr⟩ := (show ObjOk X.prog X.w H s.heap d (.xd [(("key" : Str), v)]) from I.hok _ _ h.2)
  obtain ⟨od, ho, hl⟩ := lookIn_ns hns
  obtain ⟨u, hu, ru⟩ := RelO.some_of (v := v) (o := mA "key") (by
    have := hr "key"
    simpa [List.lookup] using this)
  exact ⟨oe, od, ⟨e1, e2.1, by unfold PySem.W.notCls; rw [e3] <;> rfl, by rw [e2.2]; exact ho⟩, u, by rw [hl, hu], ru⟩
/-- isinstance(e, c) -/
def rIsErr (K : PySem.W.Frag) : List V → Hp → VK → Prop := fun xs H Q => ∃ (N a d : Addr) (v c : V) (cv : Value) (b : Bool), xs = [.ref a, c] ∧ ErrAt H N a d v ∧ ExcC K N ∧ (∀ u, RelV c u → u = cv) ∧ PySem.W.kitOne K (.ref N) cv = some b ∧ Q (.bl b) H
theorem call_isErr : CallR X (.builtin "isinstance") (rIsErr X.K) := by
  intro pins s σ H xs us Q I r h
  obtain ⟨N, a, d, v, c, cv, b, rfl, he, C, hcv, e, q⟩ := h
  cases r with
  | cons rx rr =>
    cases rr with
    | cons rt rr =>
      cases rr
      cases rx
      have ec := hcv _ rt
      subst ec
      obtain ⟨ox, od, J, _⟩ := err_inst I he
      exact PySem.W.kia_one (err_kit C) I.kIn J e (fun z => nomatch z) fun tk => ⟨.bl b, H, I.kept (t' := tk) fun _ _ z => z, rfl, q⟩
/-- e.key -/
def tErrKey (K : PySem.W.Frag) (te : TE) : TE := fun σ H Q => te σ H fun x H1 => ∃ (N a d : Addr) (v : V), x = .ref a ∧ ErrAt H1 N a d v ∧ XfC K N ∧ PySem.W.findIn K (.ref N) "key" = some none ∧ Q v H1
theorem pe_errKey {e : Expr} {te : TE} {pos : Pos} (he : PE X e te) (hb : attributeBase e "key" X.env (eval e X.env) = eval e X.env := by rfl) : PE X (.Attribute e "key" pos) (tErrKey X.K te) := by
  refine ⟨fun pins s σ H Q I h => ?_⟩
  refine attr_of hb (thn (he.run pins s σ H _ I h) fun u s1 ⟨x, H1, I1, rx, N, a, d, v, ex, ha, T, hno, q⟩ => ?_)
  subst ex
  obtain rfl : u = Value.ref a := rx
  obtain ⟨ox, od, J, u, hu, ru⟩ := err_inst I1 ha
  exact HandSPX.exc_get I1.kIn J T.ga T.gg T.exC (PySem.W.findObj_own T.hdC hno rfl hu) (handed_of ru) ⟨v, H1, I1.tok _, ru, q⟩
end
end K39
/-! M8 -/
set_option maxHeartbeats 8000000
/-! fault -/
namespace K39
open PySem PySem.Spec PyProof.Rows L2

theorem ErrAt.keep {H H' : Hp} {N a d : Addr} {v : V} (h : ErrAt H N a d v) (s : Same H H') : ErrAt H' N a d v := ⟨s _ _ h.1, s _ _ h.2⟩
/-- what the top has of the error classes -/
structure FltC (K : PySem.W.Frag) (mg : Str → Option Value) (N : Addr) : Prop where
  err : ExcC K N
  fld : XfC K N
  noN : PySem.W.findIn K (.ref N) "key" = some none
  ve : mg "ValueError" = none
  kve : PySem.W.kitOne K (.ref N) (.type "ValueError") = some true
  cBadBook : ∃ c, mg "BadBook" = some (.ref c) ∧ PySem.W.kitOne K (.ref N) (.ref c) = some false
  cBadChapter : ∃ c, mg "BadChapter" = some (.ref c) ∧ PySem.W.kitOne K (.ref N) (.ref c) = some false
  cBadLink : ∃ c, mg "BadLink" = some (.ref c) ∧ PySem.W.kitOne K (.ref N) (.ref c) = some false
  cBadNumber : ∃ c, mg "BadNumber" = some (.ref c) ∧ PySem.W.kitOne K (.ref N) (.ref c) = some false
  cBadText : ∃ c, mg "BadText" = some (.ref c) ∧ PySem.W.kitOne K (.ref N) (.ref c) = some false
  cNoSpot : ∃ c, mg "NoSpot" = some (.ref c) ∧ PySem.W.kitOne K (.ref N) (.ref c) = some false
  cNoItem : ∃ c, mg "NoItem" = some (.ref c) ∧ PySem.W.kitOne K (.ref N) (.ref c) = some true
  cNoChapter : ∃ c, mg "NoChapter" = some (.ref c) ∧ PySem.W.kitOne K (.ref N) (.ref c) = some false
theorem pgT {K : PySem.W.Frag} {Y : Cx} {es : List Expr} {k n : Nat} {t : TGs} {pos : Pos} (hK : Y.K = K) (hc : Y.calm = true) (h : PGs Y es t) (hn : (assignEach es Y.env).length = n) (hst : (assignEach es Y.env).findIdx? (·.1) = none) : PG Y (.Tuple es k pos) (gTup K n t) := by rw [← hK]; exact pg_tup hc h hn hst
def FPairs (H : Hp) (ts : List Addr) (ps : List (Str × Bool)) : Prop := Paired (fun t p => H t = some (.tup [.str p.1, .bl p.2])) ts ps
theorem fpairs_same {H H' : Hp} (sm : TK H H') : ∀ {ts : List Addr} {ps : List (Str × Bool)}, FPairs H ts ps → FPairs H' ts ps
  | _, _, .nil => .nil
  | _, _, .cons h t => .cons (sm _ _ h) (fpairs_same sm t)
theorem take_words {ps : List (Str × Bool)} {i : Nat} {pr : Str × Bool} (h : ps[i]? = some pr) : (((ps.take (i + 1)).filter (·.2)).map (·.1)) = (((ps.take i).filter (·.2)).map (·.1)) ++ if pr.2 = true then [pr.1] else [] := by
  rw [take_succ_of h, List.filter_append, List.map_append]
  obtain ⟨a, b⟩ := pr
  cases b <;> rfl
def spFault (N : Addr) : Sp := fun vs H Q _ => ∃ (a d : Addr) (v : V), vs = [.ref a] ∧ ErrAt H N a d v ∧ ∀ (H' : Hp) (p : Addr), Same H H' → H p = none → H' p = some (.tup [.str "no item", v]) → Q (.ref p) H'
section
variable {P : Program} {w : World} {K : PySem.W.Frag} {mg : Str → Option Value} {base : Heap}
abbrev nFault : List Str := ["_law_fault_here", "_law_some", "_law_word", "_law_words", "_law_holds"]
theorem scFault : FnScope nFault ["_law_fault_here"] (defScope sFault) := ⟨rfl, rfl, rfl, by decide +kernel, rfl, by decide +kernel, by decide +kernel⟩
theorem ok_fault {N : Addr} (B : Bl mg) (F : FnA K mg "_law_fault" sFault) (T : FltC K mg N) : C8.Cal P w K mg base 1 "_law_fault" (spFault N) [] := by
  refine F.cal scFault (fun _ _ _ _ _ _ us hl => match us, hl with | [_], _ => rfl) (fun vs H Q E h => by obtain ⟨a, d, v, rfl, _⟩ := h; rfl) fun f cdv A outer s H vs Q E hr h => ?_
  obtain ⟨aBadBook, gBadBook, kBadBook⟩ := T.cBadBook
  obtain ⟨aBadChapter, gBadChapter, kBadChapter⟩ := T.cBadChapter
  obtain ⟨aBadLink, gBadLink, kBadLink⟩ := T.cBadLink
  obtain ⟨aBadNumber, gBadNumber, kBadNumber⟩ := T.cBadNumber
  obtain ⟨aBadText, gBadText, kBadText⟩ := T.cBadText
  obtain ⟨aNoSpot, gNoSpot, kNoSpot⟩ := T.cNoSpot
  obtain ⟨aNoItem, gNoItem, kNoItem⟩ := T.cNoItem
  obtain ⟨aNoChapter, gNoChapter, kNoChapter⟩ := T.cNoChapter
  refine ⟨_, pss_cons (ps_set (i := 1) scFault.nd rfl (Or.inl rfl) (pe_lst (pa_cons (pe_tup (pa_cons pe_str (pa_cons (pe_callB call_isErr (by rfl) B.isinstance PyProof.Rows.boot_isinstance (pa_cons (pv 0) (pa_cons (pe_glob (by rfl) gBadBook (v := .ref aBadBook) rfl) pa_nil))) pa_nil))) (pa_cons (pe_tup (pa_cons pe_str (pa_cons (pe_callB call_isErr (by rfl) B.isinstance PyProof.Rows.boot_isinstance (pa_cons (pv 0) (pa_cons (pe_glob (by rfl) gBadChapter (v := .ref aBadChapter) rfl) pa_nil))) pa_nil))) pa_nil))))
    (pss_cons (ps_set (i := 1) scFault.nd rfl (Or.inl rfl) (pe_op op_cat (pv 1) (pe_lst (pa_cons (pe_tup (pa_cons pe_str (pa_cons (pe_callB call_isErr (by rfl) B.isinstance PyProof.Rows.boot_isinstance (pa_cons (pv 0) (pa_cons (pe_glob (by rfl) gBadLink (v := .ref aBadLink) rfl) pa_nil))) pa_nil))) (pa_cons (pe_tup (pa_cons pe_str (pa_cons (pe_callB call_isErr (by rfl) B.isinstance PyProof.Rows.boot_isinstance (pa_cons (pv 0) (pa_cons (pe_glob (by rfl) gBadNumber (v := .ref aBadNumber) rfl) pa_nil))) pa_nil))) pa_nil)))))
    (pss_cons (ps_set (i := 1) scFault.nd rfl (Or.inl rfl) (pe_op op_cat (pv 1) (pe_lst (pa_cons (pe_tup (pa_cons pe_str (pa_cons (pe_callB call_isErr (by rfl) B.isinstance PyProof.Rows.boot_isinstance (pa_cons (pv 0) (pa_cons (pe_glob (by rfl) gBadText (v := .ref aBadText) rfl) pa_nil))) pa_nil))) (pa_cons (pe_tup (pa_cons pe_str (pa_cons (pe_callB call_isErr (by rfl) B.isinstance PyProof.Rows.boot_isinstance (pa_cons (pv 0) (pa_cons (pe_glob (by rfl) gNoSpot (v := .ref aNoSpot) rfl) pa_nil))) pa_nil))) pa_nil)))))
    (pss_cons (ps_set (i := 1) scFault.nd rfl (Or.inl rfl) (pe_op op_cat (pv 1) (pe_lst (pa_cons (pe_tup (pa_cons pe_str (pa_cons (pe_callB call_isErr (by rfl) B.isinstance PyProof.Rows.boot_isinstance (pa_cons (pv 0) (pa_cons (pe_glob (by rfl) gNoItem (v := .ref aNoItem) rfl) pa_nil))) pa_nil))) (pa_cons (pe_tup (pa_cons pe_str (pa_cons (pe_callB call_isErr (by rfl) B.isinstance PyProof.Rows.boot_isinstance (pa_cons (pv 0) (pa_cons (pe_glob (by rfl) gNoChapter (v := .ref aNoChapter) rfl) pa_nil))) pa_nil))) pa_nil)))))
    (pss_cons (ps_setLc (i := 3) (own := [("_law_word", 2), ("_law_holds", 4)]) rfl scFault.nd rfl rfl (sw_true rfl rfl rfl (by decide +kernel)) (pi_list (pv 1)) (blkOk_by (own := [("_law_word", 2), ("_law_holds", 4)]) (N := nFault) (sc := defScope sFault) (by decide +kernel))
        (fun _ _ _ _ _ => pgT (K := K) rfl rfl (pgs_cons (pg_name (i := 2) scFault.nd rfl (Or.inl rfl)) (pgs_cons (pg_name (i := 4) scFault.nd rfl (Or.inl rfl)) pgs_nil)) (n := 2) rfl rfl) (fun _ _ _ _ _ => pts_one (pt_val (pv 4))) (fun _ _ _ _ _ => pv 2))
    (pss_cons (ps_if (PW.pt (pw_or (pt_cmpR op_ne (pe_lenS B (pv 3)) pe_int (nomark _)) (pw_or1 (pt_not (pt_val (pe_callB call_isErr (by rfl) B.isinstance PyProof.Rows.boot_isinstance (pa_cons (pv 0) (pa_cons (pe_bltn (by rfl) T.ve (v := .ty "ValueError") (by decide +kernel) rfl) pa_nil)))))))) (pss_one ps_never) pss_nil)
    (pss_cons (ps_set (i := 2) scFault.nd rfl (Or.inl rfl) (pe_ix ix_list (pv 3) pe_int (fun _ _ => rfl)))
    (pss_cons (ps_if (pt_cmpR op_eq (pv 2) pe_str (nomark _)) (pss_one ps_never) pss_nil)
    (pss_cons (ps_if (pt_cmpR op_eq (pv 2) pe_str (nomark _)) (pss_one ps_never) pss_nil)
    (pss_cons (ps_if (pt_cmpR op_in_seq (pv 2) (pe_tup (pa_cons pe_str (pa_cons pe_str pa_nil))) rfl) (pss_one (ps_ret (pe_tup (pa_cons (pv 2) (pa_cons (pe_errKey (pv 0)) pa_nil))))) pss_nil)
    pss_never))))))))), ?_⟩
  obtain ⟨a, d, v, rfl, he, k⟩ := h
  have s0 : Same H H := Same.refl H
  refine ⟨_, rfl, N, a, d, v, .ref aBadBook, .ref aBadBook, false, rfl, he.keep s0, T.err, fun _ r => r, kBadBook, (by show 2 ≤ sizeLine; exact small_sz (by decide)), fun p0 hp0 => ?_⟩
  have t1 := same_new (o := .tup [.str "book", .bl false]) hp0
  have e_p0 : (upd H p0 (.tup [.str "book", .bl false])) p0 = some (.tup [.str "book", .bl false]) := upd_same
  generalize hh1 : upd H p0 (.tup [.str "book", .bl false]) = H1 at t1 e_p0 ⊢
  have s1 := s0.trans t1
  refine ⟨_, rfl, N, a, d, v, .ref aBadChapter, .ref aBadChapter, false, rfl, he.keep s1, T.err, fun _ r => r, kBadChapter, (by show 2 ≤ sizeLine; exact small_sz (by decide)), fun p1 hp1 => ?_⟩
  have t2 := same_new (o := .tup [.str "chapter", .bl false]) hp1
  have e_p1 : (upd H1 p1 (.tup [.str "chapter", .bl false])) p1 = some (.tup [.str "chapter", .bl false]) := upd_same
  generalize hh2 : upd H1 p1 (.tup [.str "chapter", .bl false]) = H2 at t2 e_p1 ⊢
  have s2 := s1.trans t2
  replace e_p0 := t2 _ _ e_p0
  refine ⟨(by show 2 ≤ sizeLine; exact small_sz (by decide)), fun q0 hq0 => ?_⟩
  have t3 := same_new (o := .lst [.ref p0, .ref p1]) hq0
  have e_q0 : (upd H2 q0 (.lst [.ref p0, .ref p1])) q0 = some (.lst [.ref p0, .ref p1]) := upd_same
  generalize hh3 : upd H2 q0 (.lst [.ref p0, .ref p1]) = H3 at t3 e_q0 ⊢
  have s3 := s2.trans t3
  replace e_p0 := t3 _ _ e_p0
  replace e_p1 := t3 _ _ e_p1
  refine ⟨_, rfl, _, rfl, N, a, d, v, .ref aBadLink, .ref aBadLink, false, rfl, he.keep s3, T.err, fun _ r => r, kBadLink, (by show 2 ≤ sizeLine; exact small_sz (by decide)), fun p2 hp2 => ?_⟩
  have t4 := same_new (o := .tup [.str "link", .bl false]) hp2
  have e_p2 : (upd H3 p2 (.tup [.str "link", .bl false])) p2 = some (.tup [.str "link", .bl false]) := upd_same
  generalize hh4 : upd H3 p2 (.tup [.str "link", .bl false]) = H4 at t4 e_p2 ⊢
  have s4 := s3.trans t4
  replace e_p0 := t4 _ _ e_p0
  replace e_p1 := t4 _ _ e_p1
  replace e_q0 := t4 _ _ e_q0
  refine ⟨_, rfl, N, a, d, v, .ref aBadNumber, .ref aBadNumber, false, rfl, he.keep s4, T.err, fun _ r => r, kBadNumber, (by show 2 ≤ sizeLine; exact small_sz (by decide)), fun p3 hp3 => ?_⟩
  have t5 := same_new (o := .tup [.str "number", .bl false]) hp3
  have e_p3 : (upd H4 p3 (.tup [.str "number", .bl false])) p3 = some (.tup [.str "number", .bl false]) := upd_same
  generalize hh5 : upd H4 p3 (.tup [.str "number", .bl false]) = H5 at t5 e_p3 ⊢
  have s5 := s4.trans t5
  replace e_p0 := t5 _ _ e_p0
  replace e_p1 := t5 _ _ e_p1
  replace e_q0 := t5 _ _ e_q0
  replace e_p2 := t5 _ _ e_p2
  refine ⟨(by show 2 ≤ sizeLine; exact small_sz (by decide)), fun q2 hq2 => ?_⟩
  have t6 := same_new (o := .lst [.ref p2, .ref p3]) hq2
  have e_q2 : (upd H5 q2 (.lst [.ref p2, .ref p3])) q2 = some (.lst [.ref p2, .ref p3]) := upd_same
  generalize hh6 : upd H5 q2 (.lst [.ref p2, .ref p3]) = H6 at t6 e_q2 ⊢
  have s6 := s5.trans t6
  replace e_p0 := t6 _ _ e_p0
  replace e_p1 := t6 _ _ e_p1
  replace e_q0 := t6 _ _ e_q0
  replace e_p2 := t6 _ _ e_p2
  replace e_p3 := t6 _ _ e_p3
  refine ⟨q0, q2, _, _, rfl, rfl, e_q0, e_q2, (by show 2 + 2 ≤ sizeLine; exact small_sz (by decide)), fun l2 hl2 => ?_⟩
  have t7 := same_new (o := .lst ([.ref p0, .ref p1] ++ [.ref p2, .ref p3])) hl2
  have e_l2 : (upd H6 l2 (.lst ([.ref p0, .ref p1] ++ [.ref p2, .ref p3]))) l2 = some (.lst ([.ref p0, .ref p1] ++ [.ref p2, .ref p3])) := upd_same
  generalize hh7 : upd H6 l2 (.lst ([.ref p0, .ref p1] ++ [.ref p2, .ref p3])) = H7 at t7 e_l2 ⊢
  have s7 := s6.trans t7
  replace e_p0 := t7 _ _ e_p0
  replace e_p1 := t7 _ _ e_p1
  replace e_q0 := t7 _ _ e_q0
  replace e_p2 := t7 _ _ e_p2
  replace e_p3 := t7 _ _ e_p3
  replace e_q2 := t7 _ _ e_q2
  refine ⟨_, rfl, _, rfl, N, a, d, v, .ref aBadText, .ref aBadText, false, rfl, he.keep s7, T.err, fun _ r => r, kBadText, (by show 2 ≤ sizeLine; exact small_sz (by decide)), fun p4 hp4 => ?_⟩
  have t8 := same_new (o := .tup [.str "text", .bl false]) hp4
  have e_p4 : (upd H7 p4 (.tup [.str "text", .bl false])) p4 = some (.tup [.str "text", .bl false]) := upd_same
  generalize hh8 : upd H7 p4 (.tup [.str "text", .bl false]) = H8 at t8 e_p4 ⊢
  have s8 := s7.trans t8
  replace e_p0 := t8 _ _ e_p0
  replace e_p1 := t8 _ _ e_p1
  replace e_q0 := t8 _ _ e_q0
  replace e_p2 := t8 _ _ e_p2
  replace e_p3 := t8 _ _ e_p3
  replace e_q2 := t8 _ _ e_q2
  replace e_l2 := t8 _ _ e_l2
  refine ⟨_, rfl, N, a, d, v, .ref aNoSpot, .ref aNoSpot, false, rfl, he.keep s8, T.err, fun _ r => r, kNoSpot, (by show 2 ≤ sizeLine; exact small_sz (by decide)), fun p5 hp5 => ?_⟩
  have t9 := same_new (o := .tup [.str "no spot", .bl false]) hp5
  have e_p5 : (upd H8 p5 (.tup [.str "no spot", .bl false])) p5 = some (.tup [.str "no spot", .bl false]) := upd_same
  generalize hh9 : upd H8 p5 (.tup [.str "no spot", .bl false]) = H9 at t9 e_p5 ⊢
  have s9 := s8.trans t9
  replace e_p0 := t9 _ _ e_p0
  replace e_p1 := t9 _ _ e_p1
  replace e_q0 := t9 _ _ e_q0
  replace e_p2 := t9 _ _ e_p2
  replace e_p3 := t9 _ _ e_p3
  replace e_q2 := t9 _ _ e_q2
  replace e_l2 := t9 _ _ e_l2
  replace e_p4 := t9 _ _ e_p4
  refine ⟨(by show 2 ≤ sizeLine; exact small_sz (by decide)), fun q4 hq4 => ?_⟩
  have t10 := same_new (o := .lst [.ref p4, .ref p5]) hq4
  have e_q4 : (upd H9 q4 (.lst [.ref p4, .ref p5])) q4 = some (.lst [.ref p4, .ref p5]) := upd_same
  generalize hh10 : upd H9 q4 (.lst [.ref p4, .ref p5]) = H10 at t10 e_q4 ⊢
  have s10 := s9.trans t10
  replace e_p0 := t10 _ _ e_p0
  replace e_p1 := t10 _ _ e_p1
  replace e_q0 := t10 _ _ e_q0
  replace e_p2 := t10 _ _ e_p2
  replace e_p3 := t10 _ _ e_p3
  replace e_q2 := t10 _ _ e_q2
  replace e_l2 := t10 _ _ e_l2
  replace e_p4 := t10 _ _ e_p4
  replace e_p5 := t10 _ _ e_p5
  refine ⟨l2, q4, _, _, rfl, rfl, e_l2, e_q4, (by show 4 + 2 ≤ sizeLine; exact small_sz (by decide)), fun l4 hl4 => ?_⟩
  have t11 := same_new (o := .lst (([.ref p0, .ref p1] ++ [.ref p2, .ref p3]) ++ [.ref p4, .ref p5])) hl4
  have e_l4 : (upd H10 l4 (.lst (([.ref p0, .ref p1] ++ [.ref p2, .ref p3]) ++ [.ref p4, .ref p5]))) l4 = some (.lst (([.ref p0, .ref p1] ++ [.ref p2, .ref p3]) ++ [.ref p4, .ref p5])) := upd_same
  generalize hh11 : upd H10 l4 (.lst (([.ref p0, .ref p1] ++ [.ref p2, .ref p3]) ++ [.ref p4, .ref p5])) = H11 at t11 e_l4 ⊢
  have s11 := s10.trans t11
  replace e_p0 := t11 _ _ e_p0
  replace e_p1 := t11 _ _ e_p1
  replace e_q0 := t11 _ _ e_q0
  replace e_p2 := t11 _ _ e_p2
  replace e_p3 := t11 _ _ e_p3
  replace e_q2 := t11 _ _ e_q2
  replace e_l2 := t11 _ _ e_l2
  replace e_p4 := t11 _ _ e_p4
  replace e_p5 := t11 _ _ e_p5
  replace e_q4 := t11 _ _ e_q4
  refine ⟨_, rfl, _, rfl, N, a, d, v, .ref aNoItem, .ref aNoItem, true, rfl, he.keep s11, T.err, fun _ r => r, kNoItem, (by show 2 ≤ sizeLine; exact small_sz (by decide)), fun p6 hp6 => ?_⟩
  have t12 := same_new (o := .tup [.str "no item", .bl true]) hp6
  have e_p6 : (upd H11 p6 (.tup [.str "no item", .bl true])) p6 = some (.tup [.str "no item", .bl true]) := upd_same
  generalize hh12 : upd H11 p6 (.tup [.str "no item", .bl true]) = H12 at t12 e_p6 ⊢
  have s12 := s11.trans t12
  replace e_p0 := t12 _ _ e_p0
  replace e_p1 := t12 _ _ e_p1
  replace e_q0 := t12 _ _ e_q0
  replace e_p2 := t12 _ _ e_p2
  replace e_p3 := t12 _ _ e_p3
  replace e_q2 := t12 _ _ e_q2
  replace e_l2 := t12 _ _ e_l2
  replace e_p4 := t12 _ _ e_p4
  replace e_p5 := t12 _ _ e_p5
  replace e_q4 := t12 _ _ e_q4
  replace e_l4 := t12 _ _ e_l4
  refine ⟨_, rfl, N, a, d, v, .ref aNoChapter, .ref aNoChapter, false, rfl, he.keep s12, T.err, fun _ r => r, kNoChapter, (by show 2 ≤ sizeLine; exact small_sz (by decide)), fun p7 hp7 => ?_⟩
  have t13 := same_new (o := .tup [.str "no chapter", .bl false]) hp7
  have e_p7 : (upd H12 p7 (.tup [.str "no chapter", .bl false])) p7 = some (.tup [.str "no chapter", .bl false]) := upd_same
  generalize hh13 : upd H12 p7 (.tup [.str "no chapter", .bl false]) = H13 at t13 e_p7 ⊢
  have s13 := s12.trans t13
  replace e_p0 := t13 _ _ e_p0
  replace e_p1 := t13 _ _ e_p1
  replace e_q0 := t13 _ _ e_q0
  replace e_p2 := t13 _ _ e_p2
  replace e_p3 := t13 _ _ e_p3
  replace e_q2 := t13 _ _ e_q2
  replace e_l2 := t13 _ _ e_l2
  replace e_p4 := t13 _ _ e_p4
  replace e_p5 := t13 _ _ e_p5
  replace e_q4 := t13 _ _ e_q4
  replace e_l4 := t13 _ _ e_l4
  replace e_p6 := t13 _ _ e_p6
  refine ⟨(by show 2 ≤ sizeLine; exact small_sz (by decide)), fun q6 hq6 => ?_⟩
  have t14 := same_new (o := .lst [.ref p6, .ref p7]) hq6
  have e_q6 : (upd H13 q6 (.lst [.ref p6, .ref p7])) q6 = some (.lst [.ref p6, .ref p7]) := upd_same
  generalize hh14 : upd H13 q6 (.lst [.ref p6, .ref p7]) = H14 at t14 e_q6 ⊢
  have s14 := s13.trans t14
  replace e_p0 := t14 _ _ e_p0
  replace e_p1 := t14 _ _ e_p1
  replace e_q0 := t14 _ _ e_q0
  replace e_p2 := t14 _ _ e_p2
  replace e_p3 := t14 _ _ e_p3
  replace e_q2 := t14 _ _ e_q2
  replace e_l2 := t14 _ _ e_l2
  replace e_p4 := t14 _ _ e_p4
  replace e_p5 := t14 _ _ e_p5
  replace e_q4 := t14 _ _ e_q4
  replace e_l4 := t14 _ _ e_l4
  replace e_p6 := t14 _ _ e_p6
  replace e_p7 := t14 _ _ e_p7
  refine ⟨l4, q6, _, _, rfl, rfl, e_l4, e_q6, (by show 6 + 2 ≤ sizeLine; exact small_sz (by decide)), fun l6 hl6 => ?_⟩
  have t15 := same_new (o := .lst ((([.ref p0, .ref p1] ++ [.ref p2, .ref p3]) ++ [.ref p4, .ref p5]) ++ [.ref p6, .ref p7])) hl6
  have e_l6 : (upd H14 l6 (.lst ((([.ref p0, .ref p1] ++ [.ref p2, .ref p3]) ++ [.ref p4, .ref p5]) ++ [.ref p6, .ref p7]))) l6 = some (.lst ((([.ref p0, .ref p1] ++ [.ref p2, .ref p3]) ++ [.ref p4, .ref p5]) ++ [.ref p6, .ref p7])) := upd_same
  generalize hh15 : upd H14 l6 (.lst ((([.ref p0, .ref p1] ++ [.ref p2, .ref p3]) ++ [.ref p4, .ref p5]) ++ [.ref p6, .ref p7])) = H15 at t15 e_l6 ⊢
  have s15 := s14.trans t15
  replace e_p0 := t15 _ _ e_p0
  replace e_p1 := t15 _ _ e_p1
  replace e_q0 := t15 _ _ e_q0
  replace e_p2 := t15 _ _ e_p2
  replace e_p3 := t15 _ _ e_p3
  replace e_q2 := t15 _ _ e_q2
  replace e_l2 := t15 _ _ e_l2
  replace e_p4 := t15 _ _ e_p4
  replace e_p5 := t15 _ _ e_p5
  replace e_q4 := t15 _ _ e_q4
  replace e_l4 := t15 _ _ e_l4
  replace e_p6 := t15 _ _ e_p6
  replace e_p7 := t15 _ _ e_p7
  replace e_q6 := t15 _ _ e_q6
  have el : H15 l6 = some (.lst ([p0, p1, p2, p3, p4, p5, p6, p7].map V.ref)) := e_l6
  have fp : FPairs H15 [p0, p1, p2, p3, p4, p5, p6, p7] ([("book", false), ("chapter", false), ("link", false), ("number", false), ("text", false), ("no spot", false), ("no item", true), ("no chapter", false)] : List (Str × Bool)) := .cons e_p0 (.cons e_p1 (.cons e_p2 (.cons e_p3 (.cons e_p4 (.cons e_p5 (.cons e_p6 (.cons e_p7 (.nil))))))))
  clear hh1 hh2 hh3 hh4 hh5 hh6 hh7 hh8 hh9 hh10 hh11 hh12 hh13 hh14 hh15
  refine ⟨_, rfl, l6, rfl, ⟨_, .of el⟩, fun D hD => ?_⟩
  have sD := same_new (o := .lst []) hD
  refine lc_list (K := K) (a := l6) (xs := [p0, p1, p2, p3, p4, p5, p6, p7].map V.ref) (fun i H' => Same H15 H' ∧ H' D = some (.lst ((((([("book", false), ("chapter", false), ("link", false), ("number", false), ("text", false), ("no spot", false), ("no item", true), ("no chapter", false)] : List (Str × Bool)).take i).filter (·.2)).map (·.1)).map V.str))) ⟨sD, upd_same⟩ (fun i H' hi h => .of (h.1 _ _ el)) ?_ ?_
  · rintro i z H2 hi ⟨sm, hDb⟩
    rw [List.getElem?_map] at hi
    obtain ⟨t, ht, rfl⟩ := Option.map_eq_some_iff.mp hi
    obtain ⟨pr, hpr, hat⟩ := paired_at fp ht
    have hil : i < 8 := (List.getElem?_eq_some_iff.mp hpr).1
    have hc := sm _ _ hat
    have hwl : (((([("book", false), ("chapter", false), ("link", false), ("number", false), ("text", false), ("no spot", false), ("no item", true), ("no chapter", false)] : List (Str × Bool)).take i).filter (·.2)).map (·.1)).length ≤ 8 := by
      rw [List.length_map]
      exact Nat.le_trans (List.length_filter_le ..) (by rw [List.length_take]; omega)
    have tk := take_words hpr
    refine ⟨t, _, rfl, .of hc, rfl, _, _, rfl, _, _, rfl, rfl, rfl, _, rfl, pr.2, rfl, ite2 (fun e => ?_) fun e => ?_⟩
    · refine ⟨_, rfl, _, hDb, by rw [List.length_map]; exact small1000 (by omega), fun b o eb => ?_, ?_⟩
      · rw [upd_ne (ne_of_none eb hD)]
        exact sm b o eb
      · rw [upd_same, tk, if_pos e, List.map_append]
        rfl
    · refine ⟨sm, ?_⟩
      rw [tk, if_neg e, List.append_nil]
      exact hDb
  · rintro H2 ⟨sm, hDb⟩
    have hD2 : H2 D = some (.lst [.str "no item"]) := hDb
    have sE := s15.trans sm
    refine ⟨_, rfl, D, _, rfl, .inl (.of hD2), rfl, _, rfl, ?_⟩
    rw [show (V.int ((([V.str "no item"] : List V).length : Nat) : Int)) = V.int 1 from rfl, decide_eq_true rfl]
    refine ⟨_, rfl, N, a, d, v, .ty "ValueError", .type "ValueError", true, rfl, he.keep sE, T.err, fun _ r => r, T.kve, true, rfl, ?_⟩
    refine ⟨_, rfl, D, _, 0, _, rfl, rfl, .of hD2, atI_nat (j := 0) rfl, ?_⟩
    refine ⟨_, rfl, rfl, _, rfl, ite2 (fun e => absurd e (by decide +kernel)) fun _ => ?_⟩
    refine ⟨_, rfl, rfl, _, rfl, ite2 (fun e => absurd e (by decide +kernel)) fun _ => ?_⟩
    refine ⟨_, rfl, (by show 2 ≤ sizeLine; exact small_sz (by decide)), fun q hq => ?_⟩
    have tq := same_new (o := .tup [.str "no item", .str "no chapter"]) hq
    refine ⟨q, _, rfl, .inr (.of upd_same), rfl, rfl, _, rfl, ?_⟩
    rw [if_neg (by decide)]
    refine ite2 (fun _ => ?_) fun e => absurd (by decide +kernel) e
    refine ⟨_, rfl, _, rfl, N, a, d, v, rfl, he.keep (sE.trans tq), T.fld, T.noN, (by show 2 ≤ sizeLine; exact small_sz (by decide)), fun r hr => ?_⟩
    exact k _ r ((sE.trans tq).trans (same_new hr)) ((sE.trans tq).free hr) upd_same
end
end K39
/-! La -/
set_option maxHeartbeats 8000000
/-! a lambda handed to a def that keeps its error: the wish may look at the slots -/
namespace K39
open PySem PySem.Spec PyProof.Rows L2 LamX

section
variable {X : Cx} {pins : List (Addr × Obj)} {σ : L2.St} {H : Hp} {s : Shared}
/-- a(), in the def that got the lambda; what is wished of an exception is said at the slots of the moment -/
theorem act2 {CXg : CXT} {Eg : XK} {Ng : List Str} {qg : Str} {sg : Scope} {g f c' : Addr} {cdg pm ctv : Value} {params : Arguments} {body : Expr} {scope : Scope} {k i : Nat} {a : Str} {pn : List (Addr × Obj)} {xe : Value → Shared → Prop} {W : WX} {tb : XK → TE} {p1 p2 : Pos}
    (I : Inv X pins σ H s) (L : LamS X.env.scope scope) (hf : s.heap.get? f = some (PySem.W.kla_obj "<lambda>" (X.env.qual ++ "<lambda>") params body scope (cloFrom X.env.cells scope.names []) pm c' ctv)) (hfn : H f = none) (hfr : f ∉ frs X.stack)
    (hbind : bindArgs (PySem.W.kla_fn "<lambda>" (X.env.qual ++ "<lambda>") params body scope (cloFrom X.env.cells scope.names []) pm (.ref c') ctv) ⟨[], []⟩ = pure [])
    (tk : Takes ((cxOf CXg X.prog X.w X.K X.mg X.base Ng qg sg g cdg X.A X.stack s H Eg).tr pn xe) W) (hr : Room (k + 1) (X.A.deeper (envOfC qg sg s.heap.objs.size g cdg)))
    (hbody : ∀ (A : Around) (outer : List Env) (s : Shared) (H : Hp) (E : XK), Room k (A.deeper (lamEnv X scope s.heap.objs.size f c')) → PE (lamCx X A outer s H E scope f c') body (tb E))
    (hN : Ng[i]? = some a) (hv : Vis sg a) (hd : (a == ("__debug__" : Str)) = false := by decide) (hcd : (a == ("__classdict__" : Str)) = false := by decide) :
    PE ((cxOf CXg X.prog X.w X.K X.mg X.base Ng qg sg g cdg X.A X.stack s H Eg).tr pn xe) (.Call (.Name a p1) [] [] p2)
      (fun σZ HZ Q => σZ[i]? = some (some (.ref f)) ∧ HZ c' = some (CodeO c' (X.env.qual ++ "<lambda>")) ∧ ∃ E : XK, (∀ cls d H', E cls d H' → W cls d σZ H') ∧ tb E σ HZ Q) := by
  refine ⟨fun pinsZ sZ σZ HZ Q IZ h => ?_⟩
  obtain ⟨hs, hc, E, hW, ht⟩ := h
  refine wpAny_Call_Name_kw (thn ((pe_var (pos := p1) (i := i) hN hv hd hcd).run pinsZ sZ σZ HZ (fun v H1 => v = .ref f ∧ H1 = HZ) IZ ⟨.ref f, hs, rfl, rfl⟩) fun u s1 ⟨v, H1, I1, r1, q1⟩ => ?_)
  obtain ⟨ev, eH⟩ := q1
  subst ev
  rw [eH] at I1
  obtain rfl : u = Value.ref f := r1
  have of1 : s1.heap.get? f = some (PySem.W.kla_obj "<lambda>" (X.env.qual ++ "<lambda>") params body scope (cloFrom X.env.cells scope.names []) pm c' ctv) := I1.base.keep f _ hf hfn hfr (fun z => nomatch (show f ∈ ([] : List Addr) from z))
  refine PySem.W.callWith_F0 ⟨_, _, _, _, of1⟩ ?_
  have un : Un (frs X.stack) [] H HZ s.heap s1.heap := I1.base
  obtain ⟨⟨oc, vs, t, hoc, hdc, hvc⟩, _, _⟩ := I1.hok c' _ hc
  have rc : codeAny (model X.prog X.w) (X.A.deeper (envOfC qg sg s.heap.objs.size g cdg)) (.call (.ref f) ⟨[], []⟩) (CR (L2.CX X.prog X.w) (envOfC qg sg s.heap.objs.size g cdg :: X.stack) X.prog X.w HZ s1 Q E) s1 := by
    refine PySem.W.kla_callFunE hr.depth of1 rfl L.co L.gen rfl ⟨c', oc, vs, t, rfl, hoc, hdc, hvc⟩ ?_
    rw [hbind]
    refine wpAny_pure (wpAny_newFunctionEnv (fun y hy => (L.own y hy).2) (fun y hy => absurd hy (by simp)) (fun h₁ hns hsb => ⟨I1.nolimit.fresh _ hsb, ?_⟩) L.kind)
    show codeAny _ _ (.expr body (lamEnv X scope s1.heap.objs.size f c')) _ _
    have kp : ∀ b o, s1.heap.get? b = some o → h₁.get? b = some o := fun b o e => hsb.extBut b o (Nat.ne_of_lt (Heap.lt_size e)) (Heap.get?_push_of_some _ e)
    have J : Inv (lamCx X (X.A.deeper (envOfC qg sg s.heap.objs.size g cdg)) (envOfC qg sg s.heap.objs.size g cdg :: X.stack) s1 HZ E scope f c') [] σ HZ { s1 with heap := h₁, toks := s1.toks + ([] : List (Str × Value)).length } :=
      lam_start2 I L I1.env0 hr.hd un hns kp
    refine PySem.W.kla_codeExpr (wpAny_mono ((hbody _ _ s1 HZ E (hr.deeper _)).run [] _ _ HZ Q J ht) (fun v s' hq => ?_) fun e s' hq => hq)
    obtain ⟨w', H', J', rv, q⟩ := hq
    exact ⟨w', H', J'.os, J'.bare, J'.base, J'.hok, rv, q⟩
  refine wpAny_call (codeAny_mono rc fun r s' hq => ?_)
  cases r with
  | error e => exact tk e s' (XE.of_call I1 (fun cls d H' h => hW cls d H' h) hq)
  | ok fl =>
    cases fl with
    | ret u => exact I1.after hq
    | next => exact False.elim hq
    | brk => exact False.elim hq
    | cont => exact False.elim hq
end
/-- the def that calls what it got -/
def GivesTo2 (X : Cx) (Ng : List Str) (x : Str) (sg : Scope) (g : Addr) (cdg : Value) (bg : List Stmt) (a : Str) (q : Str) (TT : (XK → Hp → VK → Prop) → Hp → VK → Prop) : Prop :=
  ∀ (f c' : Addr) (s : Shared) (H : Hp) (Q : VK) (tl : XK → Hp → VK → Prop),
    (∀ (W : WX) (pn : List (Addr × Obj)) (xe : Value → Shared → Prop) (p1 p2 : Pos), Takes ((cxOf C8.CX0 X.prog X.w X.K X.mg X.base Ng x sg g cdg X.A X.stack s H C8.E0).tr pn xe) W →
      PE ((cxOf C8.CX0 X.prog X.w X.K X.mg X.base Ng x sg g cdg X.A X.stack s H C8.E0).tr pn xe) (.Call (.Name a p1) [] [] p2) (fun σZ HZ Q => σZ[0]? = some (some (.ref f)) ∧ HZ c' = some (CodeO c' q) ∧ ∃ E : XK, (∀ cls d H', E cls d H' → W cls d σZ H') ∧ tl E HZ Q)) →
    H c' = some (CodeO c' q) → TT tl H Q →
    ∃ t, PSs (cxOf C8.CX0 X.prog X.w X.K X.mg X.base Ng x sg g cdg X.A X.stack s H C8.E0).nox bg t ∧ t { nx := fun _ H' => Q .non H', rt := Q } (L2.start Ng [.ref f]) H
section
variable {X : Cx}
/-- x(lambda: body) -/
theorem pe_lamcall2 {T : List (Addr × Str)} {TT : (XK → Hp → VK → Prop) → Hp → VK → Prop} {x a : Str} {g c P : Addr} {k : Nat} {pg : Arguments} {bg : List Stmt} {sg : Scope} {dV kV doc pm cdv ct oc : Value} {an od : Option Addr} {osl : Array (Option Value)} {Ng : List Str}
    {params : Arguments} {body : Expr} {scope : Scope} {t : XK → TE} {p lpos pos : Pos} (hg : Gl X x) (hm : X.mg x = some (.ref g)) (hk : PySem.W.keepIn X.K (.ref g) = true)
    (lk : X.K.lookup g = some ⟨oc, od, .func (PySem.W.fnOf x x pg bg sg dV kV doc pm an cdv ct), osl⟩) (hcg : PySem.W.codeIn X.K cdv x = true) (hb : L2.Binds X.K (PySem.W.fnOf x x pg bg sg dV kV doc pm an cdv ct) [a] []) (Sg : FnScope Ng [a] sg) (hNg : Ng[0]? = some a) (hva : Vis sg a)
    (hG : GivesTo2 X Ng x sg g cdv bg a (X.env.qual ++ "<lambda>") TT)
    (TB : TabB X.base X.mg c P) (hcode : X.env.code = .ref c) (hmT : (P, X.env.qual ++ "<lambda>") ∈ T) (hu : ∀ p ∈ T, p.1 = P → p.2 = X.env.qual ++ "<lambda>") (hr : Room (k + 2) X.A) (L : LamS X.env.scope scope) (hdef : defaultsOf params X.env = ([], []))
    (hbind : ∀ (q : Str) (cl : List (Str × Addr)) (pm cv ctv : Value), bindArgs (PySem.W.kla_fn "<lambda>" q params body scope cl pm cv ctv) ⟨[], []⟩ = pure [])
    (hbody : ∀ (A : Around) (outer : List Env) (s : Shared) (H : Hp) (E : XK) (f c' : Addr), Room k (A.deeper (lamEnv X scope s.heap.objs.size f c')) → PE (lamCx X A outer s H E scope f c') body (t E))
    (hdb : (x == ("__debug__" : Str)) = false := by decide) (hd : (a == ("__debug__" : Str)) = false := by decide) (hcd : (a == ("__classdict__" : Str)) = false := by decide) :
    PE X (.Call (.Name x p) [.Lambda params body scope lpos] [] pos) (tLam T TT t) := by
  refine ⟨fun pins s σ H Q I h => ?_⟩
  obtain ⟨hT, h⟩ := h
  refine wpAny_Call_Name_kw (ld_glob I hg hm ?_ hdb)
  refine PySem.W.callWith_K (h₀ := X.base) I.ok.mod.kin hk ?_ (by rfl) (by rfl)
  show wpAny _ _ (spliced ((false, eval (.Lambda params body scope lpos) X.env) :: backTo pos (starEach [] X.env))) _ _ s
  refine Calls.spliced_cons (lam_make2 I TB hcode hmT hu hT hdef (L.has I.ok) fun f c' pm' ctv H1 s' I1 eN T1 hf hfn hfr hco => ?_)
  refine Calls.spliced_nil ⟨I1.kIn, ?_⟩
  have rc : codeAny (model X.prog X.w) X.A (.call (.ref g) ⟨[.ref f], []⟩) (CR C8.CX0 X.stack X.prog X.w H1 s' Q C8.E0) s' := by
    refine run_ofS (N := Ng) (ps := [a]) (us := [.ref f]) (vs := [.ref f]) lk hcg Sg hr I1.env0 (hb s' [.ref f] I1.kIn rfl) (.cons rfl .nil) rfl fun hr' => ?_
    obtain ⟨t', ht', hq'⟩ := hG f c' s' H1 Q (fun E H' Q' => t E σ H' Q') (fun W pn xe p1 p2 tk => act2 (i := 0) I1 L hf hfn hfr (hbind _ _ _ _ _) tk hr' (fun A outer s H E hr2 => hbody A outer s H E f c' hr2) hNg hva hd hcd) hco (h H1 eN T1)
    exact ⟨t', ht'.nox, hq'⟩
  refine wpAny_call (codeAny_mono rc fun r s2 hq => ?_)
  cases r with
  | error e => exact (show False from hq).elim
  | ok fl =>
    cases fl with
    | ret u => exact I1.after hq
    | next => exact False.elim hq
    | brk => exact False.elim hq
    | cont => exact False.elim hq
end
end K39
/-! M9 -/
set_option maxHeartbeats 8000000
/-! told -/
namespace K39
open PySem PySem.Spec PyProof.Rows L2 LamX

/-- what told makes of what it calls -/
def TTold2 (N : Addr) : (XK → Hp → VK → Prop) → Hp → VK → Prop := fun tl H Q => ∀ (H0 : Hp) (Ech : XK) (Qv : VK), Same H H0 →
  (∀ dd v H1, H1 dd = some (.xd [(("key" : Str), v)]) → (∀ H2 p, Same H1 H2 → H1 p = none → H2 p = some (.tup [.str "no item", v]) → Q (.ref p) H2) → Ech (.ref N) (some dd) H1) →
  (∀ v H1, (v ≠ .non ∨ True) → (∀ H2 p, Same H1 H2 → H1 p = none → H2 p = some (.tup [.str "told", v]) → Q (.ref p) H2) → Qv v H1) → tl Ech H0 Qv
abbrev nTold : List Str := ["_law_call", "_law_found", "_law_fault_here", "error"]
theorem scTold : FnScope nTold ["_law_call"] (defScope sTold) := ⟨rfl, rfl, rfl, by decide +kernel, rfl, by decide +kernel, by decide +kernel⟩
theorem told_gives2 {X : Cx} {q : Str} {g N BE : Addr} {cdg : Value} (hr : Room 3 X.A) (FL : C8.Cal X.prog X.w X.K X.mg X.base 1 "_law_fault" (spFault N) []) (hBE : X.mg "BookError" = some (.ref BE)) (hex : PySem.W.exmOne X.K (.ref N) (.ref BE) = some true) :
    GivesTo2 X nTold "_law_told" (defScope sTold) g cdg (defBody sTold) "_law_call" q (TTold2 N) := by
  intro f c' s H Q tl act hc h
  have hgl : Gl (cxOf C8.CX0 X.prog X.w X.K X.mg X.base nTold "_law_told" (defScope sTold) g cdg X.A X.stack s H C8.E0).nox "BookError" := by rfl
  have hr' : Room 2 (X.A.deeper (envOfC "_law_told" (defScope sTold) s.heap.objs.size g cdg)) := hr.deeper _
  refine ⟨_, pss_cons (ps_asg (pe_tup (pa_cons pe_non (pa_cons pe_non pa_nil))) (pg_tup rfl (pgs_cons (pg_name (i := 1) scTold.nd rfl (Or.inl rfl)) (pgs_cons (pg_name (i := 2) scTold.nd rfl (Or.inl rfl)) pgs_nil))))
    (pss_cons (ps_try_kept (X := (cxOf C8.CX0 X.prog X.w X.K X.mg X.base nTold "_law_told" (defScope sTold) g cdg X.A X.stack s H C8.E0).nox) (c := .ref BE) (i := 3)
      (tb := fun W D σ H => σ[0]? = some (some (.ref f)) ∧ H c' = some (CodeO c' q) ∧ ∃ Ech : XK, (∀ cls d H', Ech cls d H' → W cls d σ H') ∧ tl Ech H fun v H' => gName 1 v σ H' D.nx)
      rfl rfl scTold.nd rfl rfl ⟨hgl, by decide, .inl hBE⟩ takes0 (fun W pn xe tk _ => ?_) (fun a pn => pss_one (ps_set (i := 2) scTold.nd rfl (Or.inl rfl) (pv 3))))
    (pss_one (ps_ret (pe_ifExp (pt_cmp (pc_isN (pv 2))) (pe_tup (pa_cons pe_str (pa_cons (pv 1) pa_nil))) (C8.pe_c FL hr' (by decide) (by rfl) (pa_cons (pv 2) pa_nil)))))), ?_⟩
  · exact pss_one (ps_set (i := 1) scTold.nd rfl (Or.inl rfl) (act W pn xe _ _ tk))
  · refine ⟨by show 2 ≤ sizeLine; exact small_sz (by decide), fun p hp => ⟨p, _, rfl, .of upd_same, rfl, _, _, rfl, _, _, rfl, rfl, ?_⟩⟩
    have s0 := same_new (o := .tup [.non, .non]) hp
    refine ⟨rfl, s0 _ _ hc, fun cls d H1 => cls = .ref N ∧ ∃ dd v, d = some dd ∧ H1 dd = some (.xd [(("key" : Str), v)]) ∧ ∀ H2 p, Same H1 H2 → H1 p = none → H2 p = some (.tup [.str "no item", v]) → Q (.ref p) H2, ?_, h _ _ _ s0 (fun dd v H1 e hq => ⟨rfl, dd, v, rfl, e, hq⟩) fun v H1 _ hq => ?_⟩
    · rintro cls d H1 ⟨rfl, dd, v, rfl, e, hq⟩
      refine ⟨true, hex, fun _ a ha => ?_, fun z => by cases z⟩
      have sa := same_new (o := ErrO (.ref N) (some dd) a) ha
      refine ⟨_, rfl, _, rfl, _, rfl, ?_⟩
      refine ⟨_, rfl, a, dd, v, rfl, ⟨upd_same, sa _ _ e⟩, fun H2 p s2 hp ht => hq H2 p (sa.trans s2) (sa.free hp) ht⟩
    · refine ⟨_, rfl, _, rfl, ?_⟩
      refine ⟨_, rfl, by show 2 ≤ sizeLine; exact small_sz (by decide), fun r hr2 => hq _ r (same_new hr2) hr2 upd_same⟩
end K39
/-! Rp -/
set_option maxHeartbeats 8000000
/-! repr of data -/
namespace K39
open PySem PySem.Spec PyProof.Rows L2

section
variable {X : Cx} {es : List Expr} {pos : Pos} {t : TA}
/-- [e, ..]: no list lies at the modules' table -/
def tLstB (t : TA) : TE := fun σ H Q => t σ H fun xs H1 => xs.length ≤ sizeLine ∧ ∀ p, H1 p = none → p ≠ sysModules → Q (.ref p) (upd H1 p (.lst xs))
theorem pe_lstB (h : PA X es t) : PE X (.List es pos) (tLstB t) := by
  refine ⟨fun pins s σ H Q I hq => ?_⟩
  refine wpAny_List_spliced (thn (h.run pos pins s σ H _ I hq) fun us s1 ⟨xs, H1, I1, r, z, q⟩ => ⟨by rw [← r.length]; exact z, ?_⟩)
  have hf : H1 s1.heap.objs.size = none := I1.hok.fresh (Nat.le_refl _)
  refine ⟨.ref s1.heap.objs.size, upd H1 s1.heap.objs.size (.lst xs), I1.laid (t' := s1.toks) (fun b u e => Heap.get?_push_of_some _ e) (Nat.le_refl _) ?_, rfl, q _ hf (Nat.ne_of_gt I1.big)⟩
  exact ⟨z, us, 0, r, Heap.get?_push_size _ rfl⟩
end
/-- v's data are d -/
def RdV (K : PySem.W.Frag) (H : Hp) (v : V) (d : PyData) : Prop := ∀ {X : Cx} {pins : List (Addr × Obj)} {σ : L2.St} {s : Shared} {u : Value}, X.K = K → Inv X pins σ H s → RelV v u → ∃ as, Reads s.heap u d as ∧ (d.hasDict = true → sysModules ∉ as)
theorem RdV.dp {K : PySem.W.Frag} {H : Hp} {v : V} {d : PyData} (h : Dp K H v d) (n : d.hasDict = false) : RdV K H v d := fun {X pins σ s u} hK I r => by
  subst hK
  obtain ⟨as, e⟩ := Dp.reads I d v u h r
  exact ⟨as, e, fun z => by rw [n] at z; cases z⟩
theorem RdV.dict0 {K : PySem.W.Frag} {H : Hp} {a : Addr} (h : H a = some (.dK [])) : RdV K H (.ref a) (.dict []) := fun {X pins σ s u} hK I r => by
  obtain rfl : u = Value.ref a := r
  obtain ⟨_, hs, vs, rel, o, es, ep, ho, hx, hd, _, hp, _⟩ := dk_of I.hok h
  have ev : vs = [] := by cases rel; rfl
  subst ev
  have ees : es.toList = [] := by cases hp' : es.toList with
    | nil => rfl
    | cons e r => rw [hp'] at hp; cases hp
  refine ⟨a :: [] ++ [], .dict ho hx.1 hd (by rw [ees]; exact .nil) (by rw [ees]; exact .nil), fun _ => ?_⟩
  have : a ≠ sysModules := fun z => by rw [z] at hs; simp at hs
  simpa using Ne.symm this
theorem RdV.pair {K : PySem.W.Frag} {H : Hp} {a : Addr} {x : Str} {v : V} {d : PyData} (h : H a = some (.tup [.str x, v])) (hv : RdV K H v d) : RdV K H (.ref a) (.tuple [.str x, d]) := fun {X pins σ s u} hK I r => by
  obtain rfl : u = Value.ref a := r
  obtain ⟨its, rv, ⟨o, ho, hc, n, hd⟩, _⟩ := I.tuple (.of h)
  cases rv with
  | cons r1 rr =>
    cases rr with
    | cons r2 rr =>
      cases rr
      obtain ⟨t, rfl⟩ := r1
      obtain ⟨as, e, k⟩ := hv hK I r2
      refine ⟨[] ++ (as ++ []), .tuple ho hc hd (.cons (.str x t) (.cons e .nil)), fun z => ?_⟩
      have z' : d.hasDict = true := by simpa [PyData.hasDict, PyData.hasDictAll] using z
      simpa using k z'
theorem RdV.two {K : PySem.W.Frag} {H : Hp} {a : Addr} {v1 v2 : V} {d : PyData} (h : H a = some (.lst [v1, v2])) (hn : a ≠ sysModules) (h1 : RdV K H v1 d) (h2 : RdV K H v2 d) : RdV K H (.ref a) (.list [d, d]) := fun {X pins σ s u} hK I r => by
  obtain rfl : u = Value.ref a := r
  obtain ⟨its, rv, ⟨o, n, ho, hc, _, hd⟩, _⟩ := I.list (.of h)
  cases rv with
  | cons r1 rr =>
    cases rr with
    | cons r2 rr =>
      cases rr
      obtain ⟨as, e, k⟩ := h1 hK I r1
      obtain ⟨bs, e2, k2⟩ := h2 hK I r2
      refine ⟨a :: (as ++ (bs ++ [])), .list ho hc hd (.cons e (.cons e2 .nil)), fun z => ?_⟩
      have z' : d.hasDict = true := by simpa [PyData.hasDict, PyData.hasDictAll] using z
      simpa using ⟨Ne.symm hn, k z', k2 z'⟩
section
variable {X : Cx}
/-- a list times an int: the new list does not lie at the modules' table -/
def rRepB : R2 := fun x y H Q => ∃ l k xs, x = .ref l ∧ y = .int k ∧ H l = some (.lst xs) ∧ -(2 ^ 63) ≤ k ∧ k < 2 ^ 63 ∧ xs.length * k.toNat ≤ sizeLine ∧
  ∀ p, H p = none → p ≠ sysModules → Q (.ref p) (upd H p (.lst (List.replicate k.toNat xs).flatten))
theorem op_repB : OpR X (binaryOp .Mult) rRepB := by
  intro pins s σ H x y v u Q I rx ry h
  obtain ⟨l, k, xs, rfl, rfl, hH, h1, h2, hz, q⟩ := h
  cases rx
  obtain ⟨t, rfl⟩ := ry
  obtain ⟨z, its, n, r, hl, e⟩ := I.lstM hH
  have hlen : its.toArray.size * k.toNat ≤ sizeLine := by rw [List.size_toArray, ← hl]; exact hz
  have hcap : ¬ its.toArray.size * k.toNat > (2 ^ 63 - 1) / 8 := by
    have : (sizeLine : Nat) ≤ (2 ^ 63 - 1) / 8 := by decide
    omega
  have hfit : ¬ (!Builtin.List.listFitsIndex k) = true := by
    rw [fitsIndex_both h1 h2]
    exact Bool.false_ne_true
  have hlong : ¬ Builtin.List.listTooLong (its.toArray.size * k.toNat) = true := by
    rw [notLongL hlen]
    exact Bool.false_ne_true
  have hnew : List.foldl (fun x1 x2 => x1 ++ x2) #[] (List.replicate (if its.toArray.isEmpty = true then 0 else k.toNat) its.toArray) = (List.replicate k.toNat its).flatten.toArray := by
    have f0 : ∀ m : Nat, List.foldl (fun x1 x2 => x1 ++ x2) #[] (List.replicate m its.toArray) = (List.replicate m its).flatten.toArray := fun m => by
      have := foldl_rep its m []
      rw [List.nil_append] at this
      exact this
    rw [f0]
    cases its with
    | nil => simp
    | cons a r' => rw [if_neg (by simp)]
  refine wpAny_binaryOp_repeat_ref (T := "list") (U := "int") (by decide) ⟨_, e, rfl⟩ (fun s' => typeIs_int s' k t) noFill_list_mul PySem.F.fills_int_mul PySem.F.slot_int_rmul repeat_list PySem.F.slot_int_index.lookup
    (call_meets PySem.F.slot_int_rmul (typeIs_int s k t) PySem.F.entry_int_rmul (PySem.F.args_int_rmul_2 _ _) (int___rmul___int_list k t l its.toArray n)
      ⟨e, rfl, ⟨_, e, rfl⟩, call_meets PySem.F.slot_list_mul ⟨_, e, rfl⟩ PySem.F.entry_list_mul (PySem.F.args_list_mul_2 _ _) (AutoListH.list___mul___list_int_3 l its.toArray n k t hfit hcap hlong) ⟨e, ?_⟩⟩)
  rw [hnew]
  exact ⟨.ref _, _, I.lnew (t' := s.toks) (r.rep k.toNat) (by rw [PyProof.Rows.lm_len_rep_flat, Nat.mul_comm]; exact hz), rfl, q _ I.fresh (Nat.ne_of_gt I.big)⟩
/-- repr(e) -/
def rRepr (K : PySem.W.Frag) : List V → Hp → VK → Prop := fun xs H Q => ∃ (a : Addr) (d : PyData), xs = [.ref a] ∧ RdV K H (.ref a) d ∧ d.showable = true ∧ d.depth ≤ 60 ∧ d.shown.length ≤ sizeLine ∧ Q (.str d.shown) H
theorem call_repr (hg : X.A.guards = some []) (hu : X.A.units + 64 < cLine) : CallR X (.builtin "repr") (rRepr X.K) := by
  intro pins s σ H xs us Q I r h
  obtain ⟨a, d, rfl, hd, hs, hdp, hz, q⟩ := h
  obtain ⟨u, rfl, rx⟩ := vals1 r
  obtain rfl : u = Value.ref a := rx
  obtain ⟨as, e, k⟩ := hd rfl I rfl
  refine repr_of_reads' e hs k hg (by omega) (fun _ _ e => e) (fun h' u tk hk => ⟨.str d.shown, H, I.kept (t' := tk) hk, ⟨u, rfl⟩, q⟩) hz
end
end K39
/-! Ky -/
set_option maxHeartbeats 8000000
/-! the ten keys that are no item's -/
namespace K39
open PySem PySem.Spec PyProof.Rows L2 LamX

/-- all but d and the tables stay -/
def ButN (d : Addr) (H H' : Hp) : Prop := ∀ b o, b ≠ d → H b = some o → (∀ ps, o ≠ .tbl ps) → H' b = some o
abbrev dNo (d : PyData) : PyData := .tuple [.str "no item", d]
/-- no item has this key; it can be shown -/
structure KeyOk (K : PySem.W.Frag) (lk : Lk) (H : Hp) (v : V) (d : PyData) : Prop where
  miss : (∃ x, v = .str x ∧ lk x = none) ∨ ∃ T : String, (∀ H', ExtN H H' → TyX K H' v (.type T)) ∧ PySem.W.kitOne K (.type T) (.type "str") = some false
  rd : ∀ H', ExtN H H' → RdV K H' v d
  sh : d.showable = true
  dp : d.depth ≤ 1
  sz : (dNo d).shown.length ≤ 100
  sz2 : (PyData.list [dNo d, dNo d]).shown.length ≤ 1000
theorem same_ext {H H' : Hp} (s : Same H H') : ExtN H H' := fun b o e _ => s b o e
theorem kf {K : PySem.W.Frag} {T : String} (h : PySem.W.kitOne K (.type T) (.type "str") = some false := by exact kit_ty (by decide +kernel)) : PySem.W.kitOne K (.type T) (.type "str") = some false := h
theorem key_str {K : PySem.W.Frag} {lk : Lk} {H : Hp} {x : Str} (h : lk x = none) (hz : (dNo (.str x)).shown.length ≤ 100) (hz2 : (PyData.list [dNo (.str x), dNo (.str x)]).shown.length ≤ 1000) : KeyOk K lk H (.str x) (.str x) :=
  ⟨.inl ⟨x, rfl, h⟩, fun H' _ => RdV.dp (.str x) (by simp [PyData.hasDict]), by simp [PyData.showable], by simp [PyData.depth], hz, hz2⟩
theorem key_non {K : PySem.W.Frag} {lk : Lk} {H : Hp} : KeyOk K lk H .non .none :=
  ⟨.inr ⟨"NoneType", fun H' _ => .base .non, kit_ty (by decide +kernel)⟩, fun H' _ => RdV.dp .non (by simp [PyData.hasDict]), by simp [PyData.showable], by simp [PyData.depth], by decide +kernel, by decide +kernel⟩
theorem key_int {K : PySem.W.Frag} {lk : Lk} {H : Hp} {i : Int} (h : (PyData.int i).showable = true) (hz : (dNo (.int i)).shown.length ≤ 100) (hz2 : (PyData.list [dNo (.int i), dNo (.int i)]).shown.length ≤ 1000) : KeyOk K lk H (.int i) (.int i) :=
  ⟨.inr ⟨"int", fun H' _ => .base (.int i), kit_ty (by decide +kernel)⟩, fun H' _ => RdV.dp (.int i) (by simp [PyData.hasDict]), h, by simp [PyData.depth], hz, hz2⟩
theorem key_bl {K : PySem.W.Frag} {lk : Lk} {H : Hp} : KeyOk K lk H (.bl true) (.bool true) :=
  ⟨.inr ⟨"bool", fun H' _ => .base (.bl true), kit_ty (by decide +kernel)⟩, fun H' _ => RdV.dp (.bl true) (by simp [PyData.hasDict]), by simp [PyData.showable], by simp [PyData.depth], by decide +kernel, by decide +kernel⟩
theorem key_tup {K : PySem.W.Frag} {lk : Lk} {H : Hp} {a : Addr} (h : H a = some (.tup [.str "a"])) : KeyOk K lk H (.ref a) (.tuple [.str "a"]) :=
  ⟨.inr ⟨"tuple", fun H' e => .base (.tup (e _ _ h (by simp))), kit_ty (by decide +kernel)⟩, fun H' e => RdV.dp (.tup (.of (e _ _ h (by simp))) (.cons (.str "a") .nil)) (by simp [PyData.hasDict, PyData.hasDictAll]), by decide +kernel, by decide +kernel, by decide +kernel, by decide +kernel⟩
theorem key_lst {K : PySem.W.Frag} {lk : Lk} {H : Hp} {a : Addr} (h : H a = some (.lst [.str "a"])) : KeyOk K lk H (.ref a) (.list [.str "a"]) :=
  ⟨.inr ⟨"list", fun H' e => .base (.lst (e _ _ h (by simp))), kit_ty (by decide +kernel)⟩, fun H' e => RdV.dp (.lst (.of (e _ _ h (by simp))) (.cons (.str "a") .nil)) (by simp [PyData.hasDict, PyData.hasDictAll]), by decide +kernel, by decide +kernel, by decide +kernel, by decide +kernel⟩
theorem key_dct {K : PySem.W.Frag} {lk : Lk} {H : Hp} {a : Addr} (h : H a = some (.dK [])) : KeyOk K lk H (.ref a) (.dict []) :=
  ⟨.inr ⟨"dict", fun H' e => .base (.dK (e _ _ h (by simp))), kit_ty (by decide +kernel)⟩, fun H' e => RdV.dict0 (e _ _ h (by simp)), by decide +kernel, by decide +kernel, by decide +kernel, by decide +kernel⟩
/-- the ten of them, by their place -/
theorem key_ten {K : PySem.W.Frag} {lk : Lk} {H : Hp} {a b c : Addr} {r : Int} (h1 : H a = some (.tup [.str "a"])) (h2 : H b = some (.lst [.str "a"])) (h3 : H c = some (.dK [])) (n1 : lk "" = none) (n2 : lk "A" = none) (n3 : lk "nobody" = none) (lo : 0 ≤ r) (hi : r < 10) :
    ∃ v d, atI [.non, .int 5, .bl true, .ref a, .ref b, .ref c, .str "", .str "A", .str "nobody", .int 0] r = some v ∧ KeyOk K lk H v d := by
  obtain ⟨j, rfl⟩ : ∃ j : Nat, r = (j : Int) := ⟨_, (Int.toNat_of_nonneg lo).symm⟩
  have hj : j < 10 := by omega
  match j, hj with
  | 0, _ => exact ⟨_, _, atI_nat (j := 0) rfl, key_non⟩
  | 1, _ => exact ⟨_, _, atI_nat (j := 1) rfl, key_int (by decide +kernel) (by decide +kernel) (by decide +kernel)⟩
  | 2, _ => exact ⟨_, _, atI_nat (j := 2) rfl, key_bl⟩
  | 3, _ => exact ⟨_, _, atI_nat (j := 3) rfl, key_tup h1⟩
  | 4, _ => exact ⟨_, _, atI_nat (j := 4) rfl, key_lst h2⟩
  | 5, _ => exact ⟨_, _, atI_nat (j := 5) rfl, key_dct h3⟩
  | 6, _ => exact ⟨_, _, atI_nat (j := 6) rfl, key_str n1 (by decide +kernel) (by decide +kernel)⟩
  | 7, _ => exact ⟨_, _, atI_nat (j := 7) rfl, key_str n2 (by decide +kernel) (by decide +kernel)⟩
  | 8, _ => exact ⟨_, _, atI_nat (j := 8) rfl, key_str n3 (by decide +kernel) (by decide +kernel)⟩
  | 9, _ => exact ⟨_, _, atI_nat (j := 9) rfl, key_int (by decide +kernel) (by decide +kernel) (by decide +kernel)⟩
theorem dNo_ok {d : PyData} (hs : d.showable = true) (hd : d.depth ≤ 1) : (dNo d).showable = true ∧ (dNo d).depth ≤ 2 := by
  refine ⟨by simp [PyData.showable, PyData.showableAll, hs], ?_⟩
  simp [PyData.depth, PyData.depthAll]
  omega
end K39
/-! Nr -/
set_option maxHeartbeats 400000
/-! none_right -/
namespace K39
open PySem PySem.Spec PyProof.Rows L2 LamX

/-- a def's promise, where no guard stands -/
structure FnG (P : Program) (w : World) (K : PySem.W.Frag) (mg : Str → Option Value) (base : Heap) (k : Nat) (f : Addr) (fd : FuncData) (ps : List Str) (sp : Sp) : Prop where
  len : ∀ vs H Q E, sp vs H Q E → vs.length = ps.length
  run : ∀ (A : Around) (outer : List Env) (s : Shared) (H : Hp) (args : Args) (us : List Value) (vs : List V) (Q : VK) (E : XK), A.guards = some [] → Room k A → Env0 P w K mg base A outer s H → BindsTo s fd args (ps.zip us) → Vals vs us → sp vs H Q E →
    codeAny (model P w) A (.call (.ref f) args) (CR C8.CX0 outer P w H s Q E) s
section
variable {X : Cx} {k : Nat} {f : Addr} {fd : FuncData} {ps : List Str} {sp : Sp} {x : Str} {p pos : Pos} {e : Expr} {es : List Expr} {t : TA}
theorem pe_callG (F : FnG X.prog X.w X.K X.mg X.base k f fd ps sp) (hG : X.A.guards = some []) (hr : Room k X.A) (hm : X.mg x = some (.ref f)) (hk : PySem.W.keepIn X.K (.ref f) = true) (hb : Binds X.K fd ps []) (ha : PA X (e :: es) t) (hg : Gl X x := by rfl)
    (hdb : (x == ("__debug__" : Str)) = false := by decide) (he : starEach (e :: es) X.env = (false, eval e X.env) :: starEach es X.env := by rfl) (hpl : (backTo pos (starEach es X.env)).any (·.1) = false := by rfl) :
    PE X (.Call (.Name x p) (e :: es) [] pos) (tCall sp [] C8.E0 t) := by
  refine ⟨fun pins s σ H Q I h => ?_⟩
  refine wpAny_Call_Name_kw (ld_glob I hg hm ?_ hdb)
  refine PySem.W.callWith_K (h₀ := X.base) I.ok.mod.kin hk (thn (ha.run pos pins s σ H _ I h) fun us s1 ⟨vs, H1, I1, r, q⟩ => ⟨I1.kIn, ?_⟩) he hpl
  have q' : sp (vs ++ []) H1 Q C8.E0 := q
  rw [List.append_nil] at q'
  have hl : (us ++ []).length = ps.length := by rw [List.append_nil, ← r.length]; exact F.len _ _ _ _ q'
  have hb' := hb s1 us I1.kIn hl
  rw [List.append_nil] at hb'
  refine wpAny_call (codeAny_mono (F.run X.A X.stack s1 H1 ⟨us, []⟩ us vs Q C8.E0 hG hr I1.env0 hb' r q') fun r s' hq => ?_)
  cases r with
  | error e => exact (show False from hq).elim
  | ok fl =>
    cases fl with
    | ret u => exact I1.after hq
    | next => exact False.elim hq
    | brk => exact False.elim hq
    | cont => exact False.elim hq
end
theorem draw_ext {H H' : Hp} {d : Addr} {m : Nat} (D : DrawOk H d m) (e : ExtN H H') : DrawOk H' d m := by
  obtain ⟨c, cells, a, l, u, h1, h2, h3⟩ := D
  exact ⟨c, cells, a, l, u, e _ _ h1 (by simp), e _ _ h2 (by simp), h3⟩
theorem draw_same {H H' : Hp} {d : Addr} {m : Nat} (D : DrawOk H d m) (s : Same H H') : DrawOk H' d m := draw_ext D (same_ext s)
theorem bookF_ext {H H' : Hp} {C bk : Addr} {lk : Lk} (B : BookF H C bk lk) (e : ExtN H H') : BookF H' C bk lk := by
  obtain ⟨dx, di, fs, kvs, ⟨h1, h2, h3⟩, it⟩ := B
  exact ⟨dx, di, fs, kvs, ⟨e _ _ h1 (by simp), h2, e _ _ h3 (by simp)⟩, itemsAre_keep it fun b xs q => e _ _ q (by simp)⟩
theorem tabs_but {T : List (Addr × Str)} {H H' : Hp} {d : Addr} {m : Nat} (D : DrawOk H d m) (b : But d H H') (t : Tabs T H) : Tabs T H' := fun p hp => by
  obtain ⟨ps, h1, h2, h3⟩ := t p hp
  refine ⟨ps, b _ _ (but_ne D h1 (by simp)) h1, h2, fun pos cv hc => ?_⟩
  obtain ⟨c, e1, e2⟩ := h3 pos cv hc
  exact ⟨c, e1, b _ _ (but_ne D e2 (by unfold CodeO; simp)) e2⟩
/-- what the top has of none_right, of told -/
structure LamT (K : PySem.W.Frag) (mg : Str → Option Value) (base : Heap) (fN cN PN fT : Addr) : Prop where
  none_ : ∃ (oc : Value) (od : Option Addr) (kV doc pm : Value) (an : Option Addr) (ct : Value) (osl : Array (Option Value)),
    K.lookup fN = some ⟨oc, od, .func (PySem.W.fnOf "_law_none_right" "_law_none_right" (defArgs sNone) (defBody sNone) (defScope sNone) .none kV doc pm an (.ref cN) ct), osl⟩ ∧ PySem.W.codeIn K (.ref cN) "_law_none_right" = true
  mN : mg "_law_none_right" = some (.ref fN)
  kN : PySem.W.keepIn K (.ref fN) = true
  tab : TabB base mg cN PN
  told : ∃ fd, Fun K "_law_told" "_law_told" sTold fT fd
  mT : mg "_law_told" = some (.ref fT)
abbrev lamQ : Str := ("_law_none_right" : Str) ++ ".<locals>." ++ "<lambda>"
theorem lam_in {PN : Addr} {q : Str} : (PN, q ++ ("<lambda>" : Str)) ∈ [(PN, q ++ ("<lambda>" : Str))] := List.mem_singleton.mpr rfl
theorem lam_u {PN : Addr} {q : Str} : ∀ p ∈ [(PN, q ++ ("<lambda>" : Str))], p.1 = PN → p.2 = q ++ ("<lambda>" : Str) := fun p hp _ => by rw [List.mem_singleton.mp hp]
theorem show2 {x : PyData} (h : x.showable = true) : (PyData.list [x, x]).showable = true := by simp [PyData.showable, PyData.showableAll, h]
theorem depth2 {x : PyData} : (PyData.list [x, x]).depth = x.depth + 1 := by simp [PyData.depth, PyData.depthAll]
def spNone (C PN : Addr) : Sp := fun vs H Q _ => ∃ (d bk r : Addr) (lk : Lk) (m : Nat), vs = [.ref d, .ref bk, .ref r] ∧ DrawOk H d m ∧ m < 900000 ∧ BookF H C bk lk ∧ lk "" = none ∧ lk "A" = none ∧ lk "nobody" = none ∧ Tabs [(PN, lamQ)] H ∧
  ∀ H', ButN d H H' → DrawOk H' d (m + 1) → Tabs [(PN, lamQ)] H' → Q (.bl true) H'
section
variable {P : Program} {w : World} {K : PySem.W.Frag} {mg : Str → Option Value} {base : Heap}
abbrev nNone : List Str := ["_law_draw", "_law_book", "_law_rows", "_law_key", "_law_told_here"]
theorem scNone : FnScope nNone ["_law_draw", "_law_book", "_law_rows"] (defScope sNone) := ⟨rfl, rfl, rfl, by decide +kernel, rfl, by decide +kernel, by decide +kernel⟩
abbrev noneCx (P : Program) (w : World) (K : PySem.W.Frag) (mg : Str → Option Value) (base : Heap) (fN cN : Addr) (A : Around) (outer : List Env) (s : Shared) (H : Hp) (E : XK) : Cx := (cxOf C8.CX0 P w K mg base nNone "_law_none_right" (defScope sNone) fN (.ref cN) A outer s H E).nox
theorem ok_none {C fG fH fC N fN0 fR fN cN PN fT BE : Addr} (B : Bl mg) (T : BkT K mg C fG fH) (TC : ChT K mg fC) (TN : NiTxt P K mg N fN0) (ns : PySem.W.subIn K (.ref N) (.type "StopIteration") = some false) (L : LamT K mg base fN cN PN fT)
    (NX : C8.Cal P w K mg base 2 "_law_next" spNext []) (FL : C8.Cal P w K mg base 1 "_law_fault" (spFault N) []) (hBE : mg "BookError" = some (.ref BE)) (hex : PySem.W.exmOne K (.ref N) (.ref BE) = some true)
    (R : FnR P w K mg base (L2.CX P w) 6 fR (spReadable K C N)) (mR : mg "readable" = some (.ref fR)) (kR : PySem.W.keepIn K (.ref fR) = true) :
    ∃ fd, FnG P w K mg base 12 fN fd ["_law_draw", "_law_book", "_law_rows"] (spNone C PN) ∧ Binds K fd ["_law_draw", "_law_book", "_law_rows"] [] := by
  obtain ⟨oc, od, kV, doc, pm, an, ct, osl, lk0, hcd⟩ := L.none_
  obtain ⟨fdT, FT⟩ := L.told
  obtain ⟨ocT, odT, kVT, docT, pmT, anT, cdvT, ctT, oslT, rfl, lkT, hcdT⟩ := FT.ex
  refine ⟨PySem.W.fnOf "_law_none_right" "_law_none_right" (defArgs sNone) (defBody sNone) (defScope sNone) .none kV doc pm an (.ref cN) ct, ⟨fun vs H Q E h => by obtain ⟨d, bk, r, lk, m, rfl, _⟩ := h; rfl, fun A outer s H args us vs Q E hG hr e0 hb r h => ?_⟩, .all fun us hl => match us, hl with | [_, _, _], _ => rfl⟩
  have hlen : vs.length = 3 := by obtain ⟨d, bk, r, lk, m, rfl, _⟩ := h; rfl
  refine codeAny_mono (run_ofS (N := nNone) (CX := C8.CX0) (ps := ["_law_draw", "_law_book", "_law_rows"]) (E := E) lk0 hcd scNone hr e0 hb r hlen fun hr' => ?_) fun r s' hq => hq
  have hu : (noneCx P w K mg base fN cN A outer s H E).A.units + 64 < cLine := by
    have := hr'.un
    show (A.deeper _).units + 64 < cLine
    omega
  have hGx : (noneCx P w K mg base fN cN A outer s H E).A.guards = some [] := hG
  -- repr(e)
  have rp : ∀ {e : Expr} {ta : TE} {p pos : Pos} (ha : PE (noneCx P w K mg base fN cN A outer s H E) e ta) (hs : starEach [e] (noneCx P w K mg base fN cN A outer s H E).env = (false, eval e (noneCx P w K mg base fN cN A outer s H E).env) :: starEach [] (noneCx P w K mg base fN cN A outer s H E).env),
      PE (noneCx P w K mg base fN cN A outer s H E) (.Call (.Name "repr" p) [e] [] pos) (tCB (rRepr K) (tCons ta tNil)) := fun ha hs =>
    pe_callB (X := noneCx P w K mg base fN cN A outer s H E) (call_repr hGx hu) (by rfl) B.repr (by decide +kernel) (pa_cons ha pa_nil hs) (he := hs)
  -- told(lambda: e)
  have tl : ∀ {params : Arguments} {body : Expr} {scope : Scope} {t : XK → TE} {p lpos pos : Pos} (hL : lamSB (defScope sNone) scope = true) (hdef : defaultsOf params (noneCx P w K mg base fN cN A outer s H E).env = ([], []))
      (hbind : ∀ (q : Str) (cl : List (Str × Addr)) (pm cv ctv : Value), bindArgs (PySem.W.kla_fn "<lambda>" q params body scope cl pm cv ctv) ⟨[], []⟩ = pure [])
      (hbody : ∀ (A' : Around) (outer' : List Env) (s' : Shared) (H' : Hp) (E' : XK) (f c' : Addr), Room 7 (A'.deeper (lamEnv (noneCx P w K mg base fN cN A outer s H E) scope s'.heap.objs.size f c')) → PE (lamCx (noneCx P w K mg base fN cN A outer s H E) A' outer' s' H' E' scope f c') body (t E')),
      PE (noneCx P w K mg base fN cN A outer s H E) (.Call (.Name "_law_told" p) [.Lambda params body scope lpos] [] pos) (tLam [(PN, lamQ)] (TTold2 N) t) := fun hL hdef hbind hbody =>
    pe_lamcall2 (X := noneCx P w K mg base fN cN A outer s H E) (k := 7) (Ng := nTold) (a := "_law_call") (by rfl) L.mT FT.kp lkT hcdT (.all fun us hl => match us, hl with | [_], _ => rfl) scTold rfl (Or.inl rfl) (told_gives2 (hr'.mono (by decide)) FL hBE hex) L.tab rfl (lam_in (q := ("_law_none_right" : Str) ++ ".<locals>.")) (lam_u (q := ("_law_none_right" : Str) ++ ".<locals>.")) (hr'.mono (by decide)) (lamS_by hL) hdef hbind hbody
  have tkl : ∀ {A' : Around} {outer' : List Env} {s' : Shared} {H' : Hp} {E' : XK} {scope : Scope} {f c' : Addr}, Passes (L2.CX P w) (lamCx (noneCx P w K mg base fN cN A outer s H E) A' outer' s' H' E' scope f c') (fun cls d H1 => cls = .ref N ∧ E' cls d H1) := fun {A' outer' s' H' E' scope f c'} =>
    passes_call (takes_of (X := lamCx (noneCx P w K mg base fN cN A outer s H E) A' outer' s' H' E' scope f c') (E := E') rfl rfl rfl rfl) fun _ _ _ _ h => h.2
  have hns : ∀ {E' : XK}, NoStop K (fun cls d H' => cls = .ref N ∧ E' cls d H') := fun {E'} cls d H' h => by rw [h.1]; exact ns
  refine ⟨_, PSs.nox (X := cxOf C8.CX0 P w K mg base nNone "_law_none_right" (defScope sNone) fN (.ref cN) A outer s H E) (pss_cons (ps_set (i := 3) scNone.nd rfl (Or.inr rfl) (pe_ix ix_list (pe_lst (pa_cons pe_non (pa_cons pe_int (pa_cons pe_bl (pa_cons (pe_tup (pa_cons pe_str pa_nil)) (pa_cons (pe_lst (pa_cons pe_str pa_nil)) (pa_cons pe_dnewK (pa_cons pe_str (pa_cons pe_str (pa_cons pe_str (pa_cons pe_int pa_nil))))))))))) (C8.pe_c NX hr' (by decide) (by rfl) (pa_cons (pv 0) (pa_cons pe_int pa_nil))) (fun _ _ => rfl)))
    (pss_cons (ps_if (pt_cmpR op_ne (rp (tl (by decide +kernel) (by rfl) (by intros; rfl) (t := fun E' => tListChR K C N (fun cls d H' => cls = .ref N ∧ E' cls d H') 1 3) fun A' outer' s' H' E' f c' hr2 => pe_listChR (k := 0) (i := 1) (j := 3) TC.gen B T TN (hr2.mono (by decide)) tkl hns rfl (Or.inr (Or.inr rfl)) rfl (Or.inr (Or.inr rfl))) (by rfl)) (rp (pe_tup (pa_cons pe_str (pa_cons (pv 3) pa_nil))) (by rfl)) (nomark _)) (pss_one (ps_ret pe_bl)) pss_nil)
    (pss_cons (ps_if (pt_cmpR op_ne (rp (tl (by decide +kernel) (by rfl) (by intros; rfl) (t := fun E' => tZip0 1 3) fun A' outer' s' H' E' f c' hr2 => pe_zip0 (kl := 0) (i := 1) (j := 3) TC.gen B hr2 rfl (Or.inr (Or.inr rfl)) rfl (Or.inr (Or.inr rfl))) (by rfl)) (rp (pe_tup (pa_cons pe_str (pa_cons (pe_lst pa_nil) pa_nil))) (by rfl)) (nomark _)) (pss_one (ps_ret pe_bl)) pss_nil)
    (pss_cons (ps_set (i := 4) scNone.nd rfl (Or.inl rfl) (pe_lstB (pa_cons (tl (by decide +kernel) (by rfl) (by intros; rfl) (t := fun E' => tCallR (spReadable K C N) (fun cls d H' => cls = .ref N ∧ E' cls d H') (tCons (tVar 1) (tCons (tVar 3) tNil))) fun A' outer' s' H' E' f c' hr2 => pe_callFR R (hr2.mono (by decide)) mR kR tkl (pa_cons (pv 1) (pa_cons (pv 3) pa_nil))) pa_nil)))
    (pss_cons (ps_expr (pe_bm PySem.F.plainAttrs_list PySem.F.slot_list_append PySem.F.type_list_append mt_append (pv 4) (pa_cons (tl (by decide +kernel) (by rfl) (by intros; rfl) (t := fun E' => tCallR (spReadable K C N) (fun cls d H' => cls = .ref N ∧ E' cls d H') (tCons (tVar 1) (tCons (tVar 3) (tCons (tC (.str "figure")) tNil)))) fun A' outer' s' H' E' f c' hr2 => pe_callFR R (hr2.mono (by decide)) mR kR tkl (pa_cons (pv 1) (pa_cons (pv 3) (pa_cons pe_str pa_nil)))) pa_nil)))
    (pss_one (ps_ret (pe_cmpR op_eq (rp (pv 4) (by rfl)) (rp (pe_op op_repB (pe_lst (pa_cons (pe_tup (pa_cons pe_str (pa_cons (pv 3) pa_nil))) pa_nil)) pe_int) (by rfl)) (nomark _))))))))), ?_⟩
  obtain ⟨d, bk, r, lk, m, rfl, hd, hm, hB, n1, n2, n3, hT, k⟩ := h
  -- the key
  refine ⟨(by show 1 ≤ sizeLine; exact small_sz (by decide)), fun a ha => ?_⟩
  have t1 := same_new (o := .tup [.str "a"]) ha
  refine ⟨(by show 1 ≤ sizeLine; exact small_sz (by decide)), fun b hb' => ?_⟩
  have t2 := same_new (o := .lst [.str "a"]) hb'
  refine fun c hc => ?_
  have t3 := same_new (o := .dK []) hc
  refine ⟨(by show 10 ≤ sizeLine; exact small_sz (by decide)), fun l hl => ?_⟩
  have t4 := same_new (o := .lst [.non, .int 5, .bl true, .ref a, .ref b, .ref c, .str "", .str "A", .str "nobody", .int 0]) hl
  have ea := t4 _ _ (t3 _ _ (t2 _ _ (upd_same (H := H) (a := a) (o := .tup [.str "a"]))))
  have eb := t4 _ _ (t3 _ _ (upd_same (H := upd H a (.tup [.str "a"])) (a := b) (o := .lst [.str "a"])))
  have ec := t4 _ _ (upd_same (H := upd (upd H a (.tup [.str "a"])) b (.lst [.str "a"])) (a := c) (o := .dK []))
  have sL := ((t1.trans t2).trans t3).trans t4
  have hdL := draw_same hd sL
  have el : (upd (upd (upd (upd H a (.tup [.str "a"])) b (.lst [.str "a"])) c (.dK [])) l (.lst [.non, .int 5, .bl true, .ref a, .ref b, .ref c, .str "", .str "A", .str "nobody", .int 0])) l = some (.lst [.non, .int 5, .bl true, .ref a, .ref b, .ref c, .str "", .str "A", .str "nobody", .int 0]) := upd_same
  have hTL := hT.ext sL
  have hBL := BookF.same hB sL
  generalize (upd (upd (upd (upd H a (.tup [.str "a"])) b (.lst [.str "a"])) c (.dK [])) l (.lst [.non, .int 5, .bl true, .ref a, .ref b, .ref c, .str "", .str "A", .str "nobody", .int 0])) = HL at t4 ea eb ec sL hdL el hTL hBL ⊢
  refine ⟨_, rfl, d, 10, m, rfl, by decide, by decide, hdL, by omega, fun H1 r1 b1 d1 lo hi => ?_⟩
  have nc : c ≠ d := fun z => by
    obtain ⟨_, _, _, _, _, h1, _⟩ := hd
    have := t2 _ _ (t1 _ _ h1)
    rw [z, this] at hc
    cases hc
  have ea1 := b1 _ _ (but_ne hdL ea (by simp)) ea
  have eb1 := b1 _ _ (but_ne hdL eb (by simp)) eb
  have ec1 := b1 _ _ nc ec
  have el1 := b1 _ _ (but_ne hdL el (by simp)) el
  have hT1 := tabs_but hdL b1 hTL
  have hB1 := bookF_but hdL hBL b1
  obtain ⟨v, dt, hat, hk⟩ := key_ten (K := K) ea1 eb1 ec1 n1 n2 n3 lo hi
  refine ⟨l, _, r1, v, rfl, rfl, .of el1, hat, ?_⟩
  have bN : ∀ {H5 : Hp}, ExtN H1 H5 → ButN d H H5 := fun e b o n q nt => e b o (b1 b o n (sL b o q)) nt
  obtain ⟨hds, hdd⟩ := dNo_ok hk.sh hk.dp
  have noat : ∀ {H3 : Hp} {E1 : XK}, ExtN H1 H3 → (∀ H4 dd, Same H3 H4 → H4 dd = some (.xd [(("key" : Str), v)]) → E1 (.ref N) (some dd) H4) → NoAt K H3 C N bk v E1 := fun {H3 E1} e3 hE => by
    obtain ⟨dx, di, fs, kvs, hbk, it⟩ := bookF_ext hB1 e3
    refine ⟨dx, di, fs, kvs, hbk, ?_, fun H4 dd s4 hd4 => hE _ dd (s4.trans (same_new hd4)) upd_same⟩
    rcases hk.miss with ⟨x, rfl, hx⟩ | ⟨Ty, hTy, hkk⟩
    · exact .inl ⟨x, rfl, it.no x hx⟩
    · exact .inr ⟨Ty, fun H' s' => hTy H' (e3.trans (same_ext s')), hkk⟩
  have rd : ∀ {H5 : Hp} {p : Addr}, ExtN H1 H5 → H5 p = some (.tup [.str "no item", v]) → RdV K H5 (.ref p) (dNo dt) := fun e5 hp => RdV.pair hp (hk.rd _ e5)
  have hsz : (dNo dt).shown.length ≤ sizeLine := Nat.le_trans hk.sz (by decide)
  -- told(lambda: list(chain(..)))
  refine ⟨hT1, fun H2 e2 T2 H3 Ech Qv s3 hE hV => ?_⟩
  refine ⟨bk, v, rfl, rfl, noat (e2.trans (same_ext s3)) fun H4 dd s4 hdd4 => ⟨rfl, hE dd v H4 hdd4 fun H5 p s5 hp hpt => ?_⟩⟩
  have e5 : ExtN H1 H5 := e2.trans (same_ext ((s3.trans s4).trans s5))
  have T5 := T2.ext ((s3.trans s4).trans s5)
  refine ⟨p, dNo dt, rfl, rd e5 hpt, hds, by omega, hsz, ?_⟩
  refine ⟨_, rfl, by show 2 ≤ sizeLine; exact small_sz (by decide), fun q hq => ?_⟩
  have tq := same_new (o := .tup [.str "no item", v]) hq
  have e6 := e5.trans (same_ext tq)
  have T6 := T5.ext tq
  refine ⟨q, dNo dt, rfl, rd e6 upd_same, hds, by omega, hsz, rfl, _, rfl, ?_⟩
  rw [decide_eq_true rfl]
  generalize upd H5 q (.tup [.str "no item", v]) = H6 at tq e6 T6 ⊢
  -- told(lambda: list(zip([], chain(..))))
  have ctl : ∀ {H5 : Hp} {p S : Addr}, H5 p = some (.tup [.str "told", .ref S]) → H5 S = some (.lst []) → RdV K H5 (.ref p) (.tuple [.str "told", .list []]) := fun hp hS => RdV.pair hp (RdV.dp (.lst (.of hS) .nil) (by simp [PyData.hasDict, PyData.hasDictAll]))
  refine ⟨T6, fun H7 e7 T7 H8 Ech Qv s8 hE hV => ?_⟩
  refine ⟨bk, v, rfl, rfl, fun H9 S s9 hS => hV (.ref S) _ (.inr trivial) fun H10 p2 s10 hp2 hpt2 => ?_⟩
  have sS := same_new (o := .lst []) hS
  have sA := ((s8.trans s9).trans sS).trans s10
  have e10 : ExtN H1 H10 := (e6.trans e7).trans (same_ext sA)
  have T10 := T7.ext sA
  have hS10 : H10 S = some (.lst []) := s10 _ _ upd_same
  refine ⟨p2, _, rfl, ctl hpt2 hS10, by decide +kernel, by decide +kernel, by decide +kernel, ?_⟩
  refine ⟨Nat.zero_le _, fun S2 hS2 => ⟨by show 2 ≤ sizeLine; exact small_sz (by decide), fun q2 hq2 => ?_⟩⟩
  have sB := (same_new (o := .lst []) hS2)
  have sC := same_new (o := .tup [.str "told", .ref S2]) hq2
  have e12 := (e10.trans (same_ext sB)).trans (same_ext sC)
  have T12 := (T10.ext sB).ext sC
  refine ⟨q2, _, rfl, ctl upd_same (sC _ _ upd_same), by decide +kernel, by decide +kernel, by decide +kernel, rfl, _, rfl, ?_⟩
  rw [decide_eq_true rfl]
  generalize upd (upd H10 S2 (.lst [])) q2 (.tup [.str "told", .ref S2]) = H12 at e12 T12 ⊢
  clear sB sC hq2
  -- told_here
  refine ⟨T12, fun H13 e13 T13 H14 Ech Qv s14 hE hV => ?_⟩
  refine ⟨_, rfl, _, rfl, bk, v, [], rfl, by decide, .inr (noat ((e12.trans e13).trans (same_ext s14)) fun H15 dd s15 hdd => ⟨rfl, hE dd v H15 hdd fun H16 p3 s16 hp3 hpt3 => ?_⟩)⟩
  have sD := (s14.trans s15).trans s16
  have e16 := (e12.trans e13).trans (same_ext sD)
  have T16 := T13.ext sD
  refine ⟨by show 1 ≤ sizeLine; exact small_sz (by decide), fun L5 hL5 hn5 => ?_⟩
  have sE := same_new (o := .lst [.ref p3]) hL5
  have e17 := e16.trans (same_ext sE)
  have T17 := T16.ext sE
  have hpt17 := sE _ _ hpt3
  have hL17 : (upd H16 L5 (.lst [.ref p3])) L5 = some (.lst [.ref p3]) := upd_same
  generalize upd H16 L5 (.lst [.ref p3]) = H17 at e17 T17 hpt17 hL17 ⊢
  refine ⟨_, rfl, .inl ⟨rfl, _, .of hL17⟩, T17, fun H18 e18 T18 H19 Ech Qv s19 hE hV => ?_⟩
  refine ⟨_, rfl, _, rfl, bk, v, ["figure"], rfl, by decide, .inr (noat ((e17.trans e18).trans (same_ext s19)) fun H20 dd s20 hdd => ⟨rfl, hE dd v H20 hdd fun H21 p4 s21 hp4 hpt4 => ?_⟩)⟩
  have sF := (s19.trans s20).trans s21
  have e21 := (e17.trans e18).trans (same_ext sF)
  have hpt21 := sF _ _ (e18 _ _ hpt17 (by simp))
  have hL21 := sF _ _ (e18 _ _ hL17 (by simp))
  have T21 := T18.ext sF
  refine ⟨L5, _, _, rfl, rfl, hL21, by show 1 < sizeLine; exact small1000 (by decide), ?_⟩
  have e22 : ExtN H1 (upd H21 L5 (.lst ([.ref p3] ++ [.ref p4]))) := fun b o q nt => by
    rw [upd_ne (fun z => by have := e16 _ _ q nt; rw [z, hL5] at this; cases this)]
    exact e21 _ _ q nt
  have keep : ∀ {b : Addr} {o : HO}, H21 b = some o → (∀ xs, o ≠ .lst xs) → (upd H21 L5 (.lst ([.ref p3] ++ [.ref p4]))) b = some o := fun {b o} q n => by
    rw [upd_ne (ne_of q hL21 (n _))]; exact q
  have T22 : Tabs [(PN, lamQ)] (upd H21 L5 (.lst ([.ref p3] ++ [.ref p4]))) := fun p hp => by
    obtain ⟨ps, h1, h2, h3⟩ := T21 p hp
    refine ⟨ps, keep h1 (by simp), h2, fun pos cv hc => ?_⟩
    obtain ⟨c, q1, q2⟩ := h3 pos cv hc
    exact ⟨c, q1, keep q2 (by unfold CodeO; simp)⟩
  have hp3 := keep hpt21 (by simp)
  have hp4 := keep hpt4 (by simp)
  have hL22 : (upd H21 L5 (.lst ([.ref p3] ++ [.ref p4]))) L5 = some (.lst [.ref p3, .ref p4]) := upd_same
  generalize upd H21 L5 (.lst ([.ref p3] ++ [.ref p4])) = H22 at e22 T22 hp3 hp4 hL22 ⊢
  have hz2 : ∀ {x : PyData}, x = .list [dNo dt, dNo dt] → x.showable = true ∧ x.depth ≤ 60 := fun {x} q => by
    rw [q]
    exact ⟨show2 hds, by rw [depth2]; omega⟩
  have hsz2 : (PyData.list [dNo dt, dNo dt]).shown.length ≤ sizeLine := Nat.le_trans hk.sz2 (by decide)
  refine ⟨_, rfl, L5, .list [dNo dt, dNo dt], rfl, RdV.two hL22 hn5 (rd e22 hp3) (rd e22 hp4), (hz2 rfl).1, (hz2 rfl).2, hsz2, ?_⟩
  refine ⟨_, rfl, by show 2 ≤ sizeLine; exact small_sz (by decide), fun q hq => ?_⟩
  have sq := same_new (o := .tup [.str "no item", v]) hq
  refine ⟨by show 1 ≤ sizeLine; exact small_sz (by decide), fun L6 hL6 => ?_⟩
  have s6 := same_new (o := .lst [.ref q]) hL6
  refine ⟨L6, 2, _, rfl, rfl, upd_same, by decide, by decide, by show 1 * 2 ≤ sizeLine; exact small_sz (by decide), fun L7 hL7 hn7 => ?_⟩
  have s7 := same_new (o := .lst (List.replicate (2 : Int).toNat [V.ref q]).flatten) hL7
  have e23 := e22.trans (same_ext ((sq.trans s6).trans s7))
  have T23 := T22.ext ((sq.trans s6).trans s7)
  have hq7 := s7 _ _ (s6 _ _ (upd_same (H := H22) (a := q) (o := .tup [.str "no item", v])))
  refine ⟨L7, .list [dNo dt, dNo dt], rfl, RdV.two upd_same hn7 (rd e23 hq7) (rd e23 hq7), (hz2 rfl).1, (hz2 rfl).2, hsz2, rfl, ?_⟩
  rw [decide_eq_true rfl]
  exact k _ (bN e23) (draw_ext d1 e23) T23
end
end K39
/-! Pl -/
set_option maxHeartbeats 4000000
/-! the plain law: chains are told once; what is shown of the four parts -/
namespace K39
open PySem PySem.Spec PyProof.Rows L2 LamX
open PySem.PyData (strOk)

theorem ch_det {lk : Lk} {seen : List Str} {here : Option Str} {ys : List Str} (h : Ch lk seen here ys) : ∀ {zs : List Str}, Ch lk seen here zs → ys = zs := by
  induction h with
  | stop h =>
    intro zs h2
    cases h2 with
    | stop _ => rfl
    | go hg _ _ => rw [hg] at h; cases h
  | go hg hlk _ ih =>
    intro zs h2
    cases h2 with
    | stop h => rw [hg] at h; cases h
    | go _ hlk2 hc2 =>
      rw [hlk] at hlk2
      cases hlk2
      rw [ih hc2]
abbrev dPl (its : List Itm) : PyData := .tuple [.tuple [], .tuple (its.map dI), .tuple [], .tuple []]
theorem idok_len {x : Str} (h : IdOk x) : x.cps.size ≤ 16 := by
  have := h.1
  rwa [Array.length_toList] at this
theorem strOk_lt {x : Str} (h : strOk x = true) : ∀ c ∈ x.cps.toList, c < 16 ^ 8 := fun c hc => by
  unfold strOk at h
  rw [← Array.all_toList, List.all_eq_true] at h
  have := of_decide_eq_true (h c hc)
  omega
theorem kinds_len : ∀ k ∈ Kinds, k.cps.size ≤ 7 := by decide +kernel
theorem item_plain {t : Itm} (h : ItmOk t) : (dI t).showable = true ∧ (dI t).hasDict = false ∧ (dI t).leavesShort 8 = true ∧ (dI t).weight ≤ 43 := by
  obtain ⟨h1, h2, h3⟩ := h
  have k1 := idok_len h1
  have k2 := kinds_len _ h2
  have l1 := strOk_lt h1.ok
  have l2 := strOk_lt (kinds_ok _ h2)
  have l3 := strOk_lt (x := "") (by decide +kernel)
  have e0 : (("" : Str).cps.size) = 0 := by decide +kernel
  have lv : ∀ {x : Str}, (∀ c ∈ x.cps.toList, c < 16 ^ 8) → PyData.leavesShort 8 (.str x) = true := fun {x} l => by
    simp only [PyData.leavesShort, List.all_eq_true, decide_eq_true_eq]
    exact l
  unfold dI
  cases hg : t.goal with
  | none =>
    split <;> refine ⟨?_, ?_, ?_, ?_⟩ <;> simp only [PyData.showable, PyData.showableAll, PyData.hasDict, PyData.hasDictAll, PyData.weight, PyData.weightAll, Bool.and_true, Bool.or_false, e0] <;> first | rfl | omega | skip
    · simp only [PyData.leavesShort, PyData.leavesShortAll, Bool.and_true, Bool.true_and, Bool.and_eq_true]
      exact ⟨lv l1, lv l2⟩
    · simp only [PyData.leavesShort, PyData.leavesShortAll, Bool.and_true, Bool.true_and, Bool.and_eq_true]
      exact ⟨lv l1, lv l2, lv l3⟩
  | some g =>
    have k4 := idok_len (h3 g hg)
    have l4 := strOk_lt (h3 g hg).ok
    split <;> refine ⟨?_, ?_, ?_, ?_⟩ <;> simp only [PyData.showable, PyData.showableAll, PyData.hasDict, PyData.hasDictAll, PyData.weight, PyData.weightAll, Bool.and_true, Bool.or_false, e0] <;> first | rfl | omega | skip
    · simp only [PyData.leavesShort, PyData.leavesShortAll, Bool.and_true, Bool.true_and, Bool.and_eq_true]
      exact ⟨lv l1, lv l2, lv l4⟩
    · simp only [PyData.leavesShort, PyData.leavesShortAll, Bool.and_true, Bool.true_and, Bool.and_eq_true]
      exact ⟨lv l1, lv l2, lv l3, lv l4⟩
theorem items_plain : ∀ {its : List Itm}, (∀ t ∈ its, ItmOk t) → PyData.showableAll (its.map dI) = true ∧ PyData.hasDictAll (its.map dI) = false ∧ PyData.leavesShortAll 8 (its.map dI) = true ∧ PyData.weightAll (its.map dI) ≤ 44 * its.length
  | [], _ => ⟨rfl, rfl, rfl, Nat.le_refl _⟩
  | t :: its, h => by
    obtain ⟨a, b, c, d⟩ := items_plain fun z hz => h z (List.mem_cons_of_mem _ hz)
    obtain ⟨a', b', c', d'⟩ := item_plain (h t List.mem_cons_self)
    simp only [List.map_cons, PyData.showableAll, PyData.hasDictAll, PyData.leavesShortAll, PyData.weightAll, a, b, c, a', b', c', List.length_cons]
    exact ⟨rfl, rfl, rfl, by omega⟩
theorem plain_ok {its : List Itm} (hl : its.length ≤ 12) (h : ∀ t ∈ its, ItmOk t) : (dPl its).showable = true ∧ (dPl its).hasDict = false ∧ (dPl its).depth ≤ 60 ∧ (dPl its).shown.length ≤ sizeLine := by
  obtain ⟨a, b, c, d⟩ := items_plain h
  have dp := (lay_items h).2
  refine ⟨?_, ?_, ?_, ?_⟩
  · simp only [PyData.showable, PyData.showableAll, a, Bool.and_true]
  · simp only [PyData.hasDict, PyData.hasDictAll, b, Bool.or_false]
  · simp only [PyData.depth, PyData.depthAll]
    omega
  · have := PyData.shown_le 8 (Nat.le_refl _) (dPl its) (by simp only [PyData.leavesShort, PyData.leavesShortAll, c, Bool.and_true])
    refine Nat.le_trans this ?_
    have hw : (dPl its).weight ≤ 44 * its.length + 4 := by
      simp only [PyData.weight, PyData.weightAll]
      omega
    rw [sizeLine_eq]
    omega
end K39
/-! Lw -/
set_option maxHeartbeats 4000000
/-! the law's body: two of one book by turns -/
namespace K39
open PySem PySem.Spec PyProof.Rows L2 LamX
open PySem.PyData (strOk)

def forBody : Stmt → List Stmt
  | .For _ _ b _ _ => b
  | _ => []
abbrev bTurn : List Stmt := forBody ((defBody sLaw).getD 1 (.Pass ⟨0, 0, 0, 0⟩))
abbrev bKey : List Stmt := forBody (bTurn.getD 3 (.Pass ⟨0, 0, 0, 0⟩))
abbrev sOther : Stmt := bKey.getD 6 (.Pass ⟨0, 0, 0, 0⟩)
abbrev nLaw : List Str := ["_law_script", "_law_draw", "_law_turn", "_law_rows", "_law_book", "_law_told_here", "_law_key", "_law_found", "_law_many", "_law_other", "_law_item"]
theorem scLaw : FnScope nLaw ["_law_script"] (defScope sLaw) := ⟨rfl, rfl, rfl, by decide +kernel, rfl, by decide +kernel, by decide +kernel⟩
section
variable {P : Program} {w : World} {K : PySem.W.Frag} {mg : Str → Option Value} {base : Heap}
abbrev lawCx (P : Program) (w : World) (K : PySem.W.Frag) (mg : Str → Option Value) (base : Heap) (f : Addr) (cdv : Value) (A : Around) (outer : List Env) (s : Shared) (H : Hp) (E : XK) : Cx := (cxOf C8.CX0 P w K mg base nLaw "law" (defScope sLaw) f cdv A outer s H E).nox
/-- the book and its rows, at a heap -/
structure Bk (H : Hp) (C bk r : Addr) (as : List Addr) (its : List Itm) : Prop where
  rows : RowsAt H r as its
  ne : its ≠ []
  len : its.length ≤ 12
  ok : ∀ t ∈ its, ItmOk t ∧ t.key ≠ "nobody"
  book : BookF H C bk (lkOf its)
theorem Bk.same {H H' : Hp} {C bk r : Addr} {as : List Addr} {its : List Itm} (B : Bk H C bk r as its) (s : Same H H') : Bk H' C bk r as its := ⟨B.rows.keep (.same s), B.ne, B.len, B.ok, BookF.same B.book s⟩
theorem Bk.oks {H : Hp} {C bk r : Addr} {as : List Addr} {its : List Itm} (B : Bk H C bk r as its) : ∀ t ∈ its, ItmOk t := fun t ht => (B.ok t ht).1
theorem Bk.chain {H : Hp} {C bk r : Addr} {as : List Addr} {its : List Itm} (B : Bk H C bk r as its) {x : Str} (hx : x ∈ its.map Itm.key) : (lkOf its x).isSome = true ∧ ∃ full, Ch (lkOf its) [] (some x) full ∧ full.length ≤ 12 ∧ GoodCh its x full := chain_of B.len B.oks hx
theorem Bk.chAt {H : Hp} {C bk r : Addr} {as : List Addr} {its : List Itm} (B : Bk H C bk r as its) {x : Str} {full : List Str} (hx : x ∈ its.map Itm.key) (hc : Ch (lkOf its) [] (some x) full) (hl : full.length ≤ 12) : ChAt H C bk x full := ⟨_, B.book, (B.chain hx).1, hc, by omega⟩
theorem paired_snoc_inv {α β : Type} {F : α → β → Prop} {ys : List β} {b : β} : ∀ {xs : List α}, Paired F xs (ys ++ [b]) → ∃ xs' a, xs = xs' ++ [a] ∧ F a b := by
  induction ys with
  | nil =>
    intro xs h
    cases h with
    | cons h t => cases t; exact ⟨[], _, rfl, h⟩
  | cons y ys ih =>
    intro xs h
    cases h with
    | cons h t =>
      obtain ⟨xs', a, rfl, hf⟩ := ih t
      exact ⟨_ :: xs', a, rfl, hf⟩
theorem ixT' {Y : Cx} (h : Y.K = K := by rfl) : IxR Y (rIxT K) := by rw [← h]; exact ix_tup
/-- two of one book by turns -/
def tOther (C : Addr) : TS := fun D σ H => ∃ (r bk l : Addr) (as : List Addr) (its : List Itm) (y : Str) (found : List Str) (x0 x1 x2 x5 x8 x9 x10 : Option V), σ = [x0, x1, x2, some (.ref r), some (.ref bk), x5, some (.str y), some (.ref l), x8, x9, x10] ∧ Bk H C bk r as its ∧
  y ∈ its.map Itm.key ∧ Ch (lkOf its) [] (some y) found ∧ found.length ≤ 12 ∧ GoodCh its y found ∧ H l = some (.lst (found.map V.str)) ∧ ∀ H' x9', Same H H' → D.nx [x0, x1, x2, some (.ref r), some (.ref bk), x5, some (.str y), some (.ref l), x8, x9', x10] H'
theorem o_other {C fG fH fC f : Addr} {cdv : Value} {A : Around} {outer : List Env} {s : Shared} {H : Hp} {E : XK} {k : Nat} (B : Bl mg) (T : BkT K mg C fG fH) (TC : ChT K mg fC) (hr : Room k (A.deeper (envOfC "law" (defScope sLaw) s.heap.objs.size f cdv))) :
    PS (lawCx P w K mg base f cdv A outer s H E) sOther (tOther C) := by
  have hu : (lawCx P w K mg base f cdv A outer s H E).A.units + 64 < cLine := by
    have := hr.un
    show (A.deeper _).units + 64 < cLine
    omega
  refine PS.imp (ps_for PassesOwn.never rfl (pi_tup (pe_tup (pa_cons (pe_ix (ixT' (K := K)) (pe_ix (ixT' (K := K)) (pv 3) (pe_un un_neg pe_int) (fun _ _ => rfl)) pe_int (fun _ _ => rfl)) (pa_cons (pv 6) pa_nil)))) (pg_name (i := 9) scLaw.nd rfl (Or.inl rfl))
    (pss_one (ps_if (pt_cmpR (op_neD hu) (pe_zipCC (i := 4) (j1 := 6) (j2 := 9) TC.gen B T hr rfl (Or.inl rfl) rfl (Or.inl rfl) rfl (Or.inl rfl)) (pe_zipLL B hr (pa_cons (pv 7) (pa_cons (pe_listCh (i := 4) (j := 9) TC.gen B T hr rfl (Or.inl rfl) rfl (Or.inl rfl)) pa_nil))) (nomark _)) (pss_one (ps_ret pe_bl)) pss_nil))) ?_
  rintro D σ H0 ⟨r, bk, l, as, its, y, found, x0, x1, x2, x5, x8, x9, x10, rfl, hB, hy, hc, hfl, hG, hL, k⟩
  obtain ⟨pre, lst, rfl⟩ : ∃ pre lst, its = pre ++ [lst] := ⟨its.dropLast, its.getLast hB.ne, (List.dropLast_concat_getLast hB.ne).symm⟩
  obtain ⟨hR1, hR2⟩ := id hB.rows
  obtain ⟨as', la, rfl, c, hla, hcc⟩ := paired_snoc_inv hR2
  refine ⟨_, rfl, _, rfl, r, _, -1, _, rfl, rfl, .of hR1, (by rw [List.map_append]; exact atI_last _ _), la, _, 0, _, rfl, rfl, .of hla, atI_nat (j := 0) rfl, _, rfl, ?_⟩
  refine ⟨(by show 2 ≤ sizeLine; exact small_sz (by decide)), fun p hp => ?_⟩
  have s0 := same_new (o := .tup [.str lst.key, .str y]) hp
  refine ⟨p, rfl, ⟨_, .of upd_same⟩, ?_⟩
  have hlst : lst.key ∈ (pre ++ [lst]).map Itm.key := List.mem_map.mpr ⟨lst, by simp, rfl⟩
  refine for_tup (K := K) (a := p) (xs := [V.str lst.key, V.str y]) (fun i σ H' => Same H0 H' ∧ H' p = some (.tup [.str lst.key, .str y]) ∧ ∃ x9, σ = [x0, x1, x2, some (.ref r), some (.ref bk), x5, some (.str y), some (.ref l), x8, x9, x10]) ⟨s0, upd_same, _, rfl⟩ (fun i σ H' hi h => .of h.2.1) ?_ ?_
  · rintro i x σ H1 hi ⟨s1, hp1, x9, rfl⟩
    obtain ⟨z, rfl, hz⟩ : ∃ z, x = .str z ∧ z ∈ (pre ++ [lst]).map Itm.key := by
      rcases List.mem_cons.mp (List.mem_of_getElem? hi) with rfl | h
      · exact ⟨_, rfl, hlst⟩
      · rw [List.mem_singleton.mp h]; exact ⟨_, rfl, hy⟩
    have hB1 := hB.same s1
    obtain ⟨hzs, full, hcz, hzl, hGz⟩ := hB1.chain hz
    refine ⟨bk, y, z, found, full, rfl, rfl, rfl, hB1.chAt hy hc hfl, hB1.chAt hz hcz hzl, fun H2 S ts s2 hS hts => ?_⟩
    have sS := same_new (o := .lst (ts.map V.ref)) hS
    have s12 := s1.trans (s2.trans sS)
    refine ⟨_, rfl, bk, z, full, rfl, rfl, (hB.same s12).chAt hz hcz hzl, fun q hq => ?_⟩
    have sq := same_new (o := .lst (full.map V.str)) hq
    refine ⟨l, q, found, full, rfl, sq _ _ (s12 _ _ hL), upd_same, by omega, fun H3 S2 ts2 s3 hS2 hts2 => ?_⟩
    have s4 := same_new (o := .lst (ts2.map V.ref)) hS2
    have okp : ∀ {xs : List Str}, (∀ y ∈ xs, IdOk y) → ∀ y ∈ xs, strOk y = true := fun h y hy => (h y hy).ok
    have okz : ∀ q ∈ found.zip full, strOk q.1 = true ∧ strOk q.2 = true := fun q hq => by
      obtain ⟨a, b⟩ := q
      exact ⟨(hG.ok _ (List.of_mem_zip hq).1).1.ok, (hGz.ok _ (List.of_mem_zip hq).2).1.ok⟩
    have sR := (sq.trans s3).trans s4
    refine ⟨.list (dP (found.zip full)), .list (dP (found.zip full)), .lst (.of (sR _ _ upd_same)) (dp_pairs (pairs_same (sS.trans sR) hts)), .lst (.of upd_same) (dp_pairs (pairs_same s4 hts2)), sh_pairs okz, sh_pairs okz, _, rfl, ?_⟩
    have e : PyData.eqv (.list (dP (found.zip full))) (.list (dP (found.zip full))) = true := by
      unfold PyData.eqv
      rw [eqv_pairs, decide_eq_true rfl]
    rw [e]
    have sZ := s12.trans sR
    exact ⟨sZ, (s2.trans (sS.trans sR)) _ _ hp1, _, rfl⟩
  · rintro σ H1 ⟨s1, _, x9, rfl⟩
    exact k _ _ s1
end
end K39
/-! Lx -/
set_option maxHeartbeats 8000000
/-! the law's body: the loop over the keys -/
namespace K39
open PySem PySem.Spec PyProof.Rows L2 LamX
open PySem.PyData (strOk)

abbrev sKeys : Stmt := bTurn.getD 3 (.Pass ⟨0, 0, 0, 0⟩)
section
variable {P : Program} {w : World} {K : PySem.W.Frag} {mg : Str → Option Value} {base : Heap}
theorem draw_dk {H : Hp} {d td : Addr} {kvs kvs' : List (Key × V)} {m : Nat} (h : H td = some (.dK kvs)) (n : d ≠ td) (D : DrawOk H d m) : DrawOk (upd H td (.dK kvs')) d m := by
  obtain ⟨c, cells, a, l, u, h1, h2, h3⟩ := D
  exact ⟨c, cells, a, l, u, by rw [upd_ne n]; exact h1, by rw [upd_ne (ne_of h2 h (by simp))]; exact h2, h3⟩
theorem Bk.but {H H' : Hp} {C bk r d : Addr} {as : List Addr} {its : List Itm} {m : Nat} (D : DrawOk H d m) (B : Bk H C bk r as its) (b : But d H H') : Bk H' C bk r as its := ⟨B.rows.keep (TK.but b D), B.ne, B.len, B.ok, bookF_but D B.book b⟩
theorem putK_len' (kvs : List (Key × V)) (k : Key) (v : V) : (putK kvs k v).length ≤ kvs.length + 1 := by
  unfold putK
  split <;> simp
/-- what was told of an id is its chain -/
def Told (its : List Itm) (H : Hp) (kvs : List (Key × V)) : Prop := ∀ x v, valV kvs (.inr x) = some v → ∃ (p : Addr) (full : List Str), v = .ref p ∧ H p = some (.lst (full.map V.str)) ∧ Ch (lkOf its) [] (some x) full
theorem Told.keep {its : List Itm} {H H' : Hp} {kvs : List (Key × V)} (t : Told its H kvs) (k : ∀ b xs, H b = some (.lst xs) → H' b = some (.lst xs)) : Told its H' kvs := fun x v e => by
  obtain ⟨p, full, h1, h2, h3⟩ := t x v e
  exact ⟨p, full, h1, k _ _ h2, h3⟩
theorem eqv_same {xs : List Str} : PyData.eqv (.list (dS xs)) (.list (dS xs)) = true := by
  unfold PyData.eqv
  rw [eqv_strs, decide_eq_true rfl]
/-- the loop over the keys -/
def tKeys (C : Addr) : TS := fun D σ H => ∃ (H0 : Hp) (d r bk td : Addr) (as : List Addr) (its : List Itm) (m : Nat) (x0 x2 x6 x7 x8 x9 x10 : Option V), σ = [x0, some (.ref d), x2, some (.ref r), some (.ref bk), some (.ref td), x6, x7, x8, x9, x10] ∧ H = upd H0 td (.dK []) ∧ H0 td = none ∧ Bk H0 C bk r as its ∧
  DrawOk H0 d m ∧ m < 800000 ∧ ∀ H' x6 x7 x8 x9 x10, But d H0 H' → DrawOk H' d (m + 72) → D.nx [x0, some (.ref d), x2, some (.ref r), some (.ref bk), some (.ref td), x6, x7, x8, x9, x10] H'
theorem o_keys {C fG fH fC f : Addr} {cdv : Value} {A : Around} {outer : List Env} {s : Shared} {H : Hp} {E : XK} (B : Bl mg) (T : BkT K mg C fG fH) (TC : ChT K mg fC) (IC : C8.Cal P w K mg base 3 "_law_is_chain" spIsChain []) (NX : C8.Cal P w K mg base 2 "_law_next" spNext [])
    (BG : C8.Cal P w K mg base 3 "_law_begun" (spBegun C) []) (RR : C8.Cal P w K mg base 8 "_law_readable_right" (spRight C) []) (hr : Room 12 (A.deeper (envOfC "law" (defScope sLaw) s.heap.objs.size f cdv))) :
    PS (lawCx P w K mg base f cdv A outer s H E) sKeys (tKeys C) := by
  have hu : (lawCx P w K mg base f cdv A outer s H E).A.units + 64 < cLine := by
    have := hr.un
    show (A.deeper _).units + 64 < cLine
    omega
  have hu1 : (lawCx P w K mg base f cdv A outer s H E).A.units + 1 < cLine := by omega
  refine PS.imp (ps_for PassesOwn.never rfl (pi_list (pe_lc (own := [("_law_item", 10)]) (g := gName 10) (tt := tYes) rfl scLaw.nd (pi_tup (pv 3)) (blkOk_by (own := [("_law_item", 10)]) (N := nLaw) (sc := defScope sLaw) (by decide +kernel))
      (fun _ _ _ _ _ => pg_name (i := 10) scLaw.nd rfl (Or.inl rfl)) (fun _ _ _ _ _ => pts_nil) (fun _ _ _ _ _ => pe_ix (ixT' (K := K)) (pv 10) pe_int (fun _ _ => rfl)))) (pg_name (i := 6) scLaw.nd rfl (Or.inl rfl))
    (pss_cons (ps_set (i := 7) scLaw.nd rfl (Or.inl rfl) (pe_listCh (i := 4) (j := 6) TC.gen B T hr rfl (Or.inl rfl) rfl (Or.inl rfl)))
    (pss_cons (ps_if (PW.pt (pw_or (pt_not (pt_val (C8.pe_c IC hr (by decide) (by rfl) (pa_cons (pv 3) (pa_cons (pv 6) (pa_cons (pv 7) pa_nil)))))) (pw_or1 (pt_cmpR (op_neD hu) (pe_dget2 hu1 (pv 5) (pv 6) (pv 7) ⟨by rfl, by rfl, by rfl, by rfl⟩) (pv 7) (nomark _)))))
      (pss_one (ps_ret pe_bl)) pss_nil)
    (pss_cons (ps_dput hu1 (pv 5) (pv 6) (pe_callTy call_list_of (by rfl) B.list (by decide +kernel) (pa_cons (pv 7) pa_nil)) (by rfl))
    (pss_cons (ps_set (i := 8) scLaw.nd rfl (Or.inl rfl) (pe_op op_add pe_int (C8.pe_c NX hr (by decide) (by rfl) (pa_cons (pv 1) (pa_cons pe_int pa_nil)))))
    (pss_cons (ps_if (PW.pt (pw_or (pt_cmpR (op_neD hu) (C8.pe_c BG hr (by decide) (by rfl) (pa_cons (pv 4) (pa_cons (pv 6) (pa_cons (pv 8) pa_nil)))) (pe_slice (slL (K := K)) (pv 7) po_none (po_some (pv 8))) (nomark _))
      (pw_or1 (pt_cmpR (op_neD hu) (pe_listCh (i := 4) (j := 6) TC.gen B T hr rfl (Or.inl rfl) rfl (Or.inl rfl)) (pv 7) (nomark _))))) (pss_one (ps_ret pe_bl)) pss_nil)
    (pss_cons (ps_if (pt_not (pt_val (C8.pe_c RR hr (by decide) (by rfl) (pa_cons (pv 1) (pa_cons (pv 4) (pa_cons (pv 3) (pa_cons (pv 6) (pa_cons (pv 7) pa_nil)))))))) (pss_one (ps_ret pe_bl)) pss_nil)
    (pss_one (o_other B T TC hr))))))))) ?_
  rintro D σ H1 ⟨H0, d, r, bk, td, as, its, m, x0, x2, x6, x7, x8, x9, x10, rfl, rfl, htd, hB0, d0, hm, k⟩
  have bD : But d H0 (upd H0 td (.dK [])) := but_new htd
  have nd : d ≠ td := by
    obtain ⟨_, _, _, _, _, h1, _⟩ := id d0
    exact ne_of_none h1 htd
  have dD : DrawOk (upd H0 td (.dK [])) d m := draw_new htd d0
  have hT0 : (upd H0 td (.dK [])) td = some (.dK []) := upd_same
  generalize upd H0 td (.dK []) = H1 at bD dD hT0 ⊢
  have hB1 := hB0.but d0 bD
  obtain ⟨hR1, hR2⟩ := id hB1.rows
  refine ⟨_, rfl, r, rfl, ⟨_, .of hR1⟩, fun Dl hD => ?_⟩
  have sD := same_new (o := .lst []) hD
  refine lc_tup (K := K) (a := r) (xs := as.map V.ref) (fun i H' => Same H1 H' ∧ H' Dl = some (.lst ((its.take i).map fun t => V.str t.key))) ⟨sD, upd_same⟩ (fun i H' hi h => .of (h.1 _ _ hR1)) ?_ ?_
  · rintro i z H2 hi ⟨s2, hDl⟩
    rw [List.getElem?_map] at hi
    obtain ⟨a, ha, rfl⟩ := Option.map_eq_some_iff.mp hi
    obtain ⟨t, ht, c, hat, _⟩ := paired_at hR2 ha
    have hil : i < its.length := (List.getElem?_eq_some_iff.mp ht).1
    refine ⟨rfl, ?_⟩
    unfold tYes
    refine iteT ?_
    refine ⟨_, rfl, a, _, 0, _, rfl, rfl, .of (s2 _ _ hat), atI_nat (j := 0) rfl, ?_⟩
    refine ⟨_, hDl, by rw [List.length_map, List.length_take]; exact small1000 (by have := hB0.len; omega), fun b o e => ?_, ?_⟩
    · rw [upd_ne (ne_of_none e hD)]
      exact s2 b o e
    · rw [upd_same, take_succ_of ht, List.map_append]
      rfl
  · rintro H2 ⟨s2, hDl⟩
    have el : its.take (as.map V.ref).length = its := by rw [List.length_map, Paired.length hR2, List.take_length]
    rw [el] at hDl
    refine ⟨Dl, rfl, ⟨_, .of hDl⟩, ?_⟩
    have b2 : But d H0 H2 := bD.trans (Same.but s2)
    have d2 : DrawOk H2 d m := draw_same dD s2
    refine for_list (K := K) (a := Dl) (xs := its.map fun t => V.str t.key) (fun i σ H' => ∃ (kvs : List (Key × V)) (x6 x7 x8 x9 x10 : Option V), σ = [x0, some (.ref d), x2, some (.ref r), some (.ref bk), some (.ref td), x6, x7, x8, x9, x10] ∧ But d H0 H' ∧ DrawOk H' d (m + 6 * i) ∧
      H' Dl = some (.lst (its.map fun t => V.str t.key)) ∧ H' td = some (.dK kvs) ∧ kvs.length ≤ i ∧ Told its H' kvs) ⟨[], _, _, _, _, _, rfl, b2, d2, hDl, s2 _ _ hT0, Nat.le_refl _, fun x v e => by cases e⟩ (fun i σ H' hi h => by
        obtain ⟨kvs, x6, x7, x8, x9, x10, rfl, _, _, h, _⟩ := h
        exact .of h) ?_ ?_
    · rintro i z σ Ha hi ⟨kvs, x6, x7, x8, x9, x10, rfl, bA, dA, lA, tA, hkl, told⟩
      rw [List.getElem?_map] at hi
      obtain ⟨t, ht, rfl⟩ := Option.map_eq_some_iff.mp hi
      have hil : i < its.length := (List.getElem?_eq_some_iff.mp ht).1
      have hi12 : i < 12 := Nat.lt_of_lt_of_le hil hB0.len
      generalize hy0 : t.key = y
      have hy : y ∈ its.map Itm.key := List.mem_map.mpr ⟨t, List.mem_of_getElem? ht, hy0⟩
      have hBA := hB0.but d0 bA
      obtain ⟨hys, full, hc, hfl, hG⟩ := hBA.chain hy
      have okS : ∀ x ∈ full, strOk x = true := fun x hx => (hG.ok x hx).1.ok
      -- found
      refine ⟨bk, y, full, rfl, rfl, hBA.chAt hy hc hfl, fun l hl => ?_⟩
      have s1 := same_new (o := .lst (full.map V.str)) hl
      have hL1 : (upd Ha l (.lst (full.map V.str))) l = some (.lst (full.map V.str)) := upd_same
      generalize upd Ha l (.lst (full.map V.str)) = Hb at s1 hL1 ⊢
      -- is_chain, told_here.get
      have hBb := hBA.same s1
      refine ⟨_, rfl, _, rfl, _, rfl, r, as, its, y, l, full, rfl, hBb.rows, by have := hBb.len; omega, hBb.oks, hL1, hG, fun Hc s2 => ?_⟩
      have sAC := s1.trans s2
      have hLc := s2 _ _ hL1
      have tC := sAC _ _ tA
      refine ⟨true, rfl, _, rfl, td, rfl, .inl ⟨kvs, .inl tC⟩, _, rfl, _, rfl, _, .k (k := .inr y) tC, _, rfl, ?_⟩
      obtain ⟨p, hp, hpL⟩ : ∃ p, (valV kvs (.inr y)).getD (.ref l) = .ref p ∧ Hc p = some (.lst (full.map V.str)) := by
        cases e : valV kvs (.inr y) with
        | none => exact ⟨l, rfl, hLc⟩
        | some v =>
          obtain ⟨p, full2, rfl, hp2, hc2⟩ := told y v e
          rw [ch_det hc hc2]
          exact ⟨p, rfl, sAC _ _ hp2⟩
      rw [hp]
      refine ⟨_, _, dp_strs hpL, dp_strs hLc, sh_strs okS, sh_strs okS, _, rfl, ?_⟩
      rw [eqv_same]
      -- told_here[key] = list(found)
      refine ⟨_, rfl, l, _, rfl, .inl (.of hLc), fun l2 hl2 => ?_⟩
      have s3 := same_new (o := .lst (full.map V.str)) hl2
      have sAD := sAC.trans s3
      have tD := sAD _ _ tA
      have hLd := s3 _ _ hLc
      have hL2 : (upd Hc l2 (.lst (full.map V.str))) l2 = some (.lst (full.map V.str)) := upd_same
      refine ⟨_, rfl, _, rfl, td, _, rfl, .k (k := .inr y) tD (small1000 (by omega)), ?_⟩
      have bE : But d H0 (upd (upd Hc l2 (.lst (full.map V.str))) td (.dK (putK kvs (.inr y) (.ref l2)))) := fun b o n e => by
        rw [upd_ne (ne_of_none e htd)]
        exact sAD _ _ (bA b o n e)
      have dE : DrawOk (upd (upd Hc l2 (.lst (full.map V.str))) td (.dK (putK kvs (.inr y) (.ref l2)))) d (m + 6 * i) := draw_dk tD nd (draw_same dA sAD)
      have tE : (upd (upd Hc l2 (.lst (full.map V.str))) td (.dK (putK kvs (.inr y) (.ref l2)))) td = some (.dK (putK kvs (.inr y) (.ref l2))) := upd_same
      have kE : ∀ b xs, (upd Hc l2 (.lst (full.map V.str))) b = some (.lst xs) → (upd (upd Hc l2 (.lst (full.map V.str))) td (.dK (putK kvs (.inr y) (.ref l2)))) b = some (.lst xs) := fun b xs e => by
        rw [upd_ne (ne_of e tD (by simp))]
        exact e
      have lE := kE _ _ (sAD _ _ lA)
      have hLe := kE _ _ hLd
      have toldE : Told its (upd (upd Hc l2 (.lst (full.map V.str))) td (.dK (putK kvs (.inr y) (.ref l2)))) (putK kvs (.inr y) (.ref l2)) := fun x v e => by
        rw [valV_put] at e
        by_cases hx : (Sum.inr x : Key) = .inr y
        · rw [if_pos hx] at e
          cases e
          have hx' : x = y := by injection hx
          subst hx'
          exact ⟨l2, full, rfl, kE _ _ hL2, hc⟩
        · rw [if_neg hx] at e
          obtain ⟨p, full2, h1, h2, h3⟩ := told x v e
          exact ⟨p, full2, h1, kE _ _ (sAD _ _ h2), h3⟩
      have hkE : (putK kvs (.inr y) (.ref l2)).length ≤ i + 1 := Nat.le_trans (putK_len' kvs _ _) (by omega)
      generalize upd (upd Hc l2 (.lst (full.map V.str))) td (.dK (putK kvs (.inr y) (.ref l2))) = He at bE dE tE lE hLe toldE ⊢
      generalize putK kvs (.inr y) (.ref l2) = kvs2 at tE toldE hkE
      -- many
      refine ⟨_, rfl, d, 4, _, rfl, by decide, by decide, dE, by omega, fun Hf r4 bf df lo4 hi4 => ?_⟩
      refine ⟨_, _, rfl, rfl, ?_⟩
      obtain ⟨n, hn⟩ : ∃ n : Nat, 1 + r4 = (n : Int) := ⟨(1 + r4).toNat, (Int.toNat_of_nonneg (by omega)).symm⟩
      have bF := bE.trans bf
      have hBf := hB0.but d0 bF
      have nlst : ∀ {b : Addr} {xs : List V} {Hx : Hp} {mm : Nat}, DrawOk Hx d mm → Hx b = some (.lst xs) → b ≠ d := fun D e => but_ne D e (by simp)
      have lF := bf _ _ (nlst dE lE) lE
      have hLf := bf _ _ (nlst dE hLe) hLe
      have tF := bf _ _ nd.symm tE
      have toldF := toldE.keep fun b xs e => bf b _ (nlst dE e) e
      -- half and whole
      refine ⟨_, rfl, _, rfl, _, rfl, bk, y, n, full, (by show [V.ref bk, V.str y, V.int (1 + r4)] = _; rw [hn]), by omega, hBf.chAt hy hc hfl, by omega, fun Hg p3 sg hp3 hpl3 => ?_⟩
      refine ⟨_, rfl, _, rfl, n, (congrArg V.int hn), l, _, rfl, .of (sg _ _ hLf), fun p4 hp4 => ?_⟩
      rw [cut_take, ← List.map_take]
      have s4 := same_new (o := .lst ((full.take n).map V.str)) hp4
      have okT : ∀ x ∈ full.take n, strOk x = true := fun x hx => okS x (List.mem_of_mem_take hx)
      refine ⟨_, _, dp_strs (s4 _ _ hpl3), dp_strs upd_same, sh_strs okT, sh_strs okT, _, rfl, ?_⟩
      rw [eqv_same]
      have sFh := sg.trans s4
      refine ⟨bk, y, full, rfl, rfl, (hBf.same sFh).chAt hy hc hfl, fun p5 hp5 => ?_⟩
      have s5 := same_new (o := .lst (full.map V.str)) hp5
      have sFi := sFh.trans s5
      refine ⟨_, rfl, _, _, dp_strs upd_same, dp_strs (sFi _ _ hLf), sh_strs okS, sh_strs okS, _, rfl, ?_⟩
      rw [eqv_same]
      have dI' := draw_same df sFi
      have bI := bF.trans (Same.but sFi)
      have hBi := hB0.but d0 bI
      have lI := sFi _ _ lF
      have hLi := sFi _ _ hLf
      have tI := sFi _ _ tF
      have toldI := toldF.keep fun b xs e => sFi b _ e
      generalize upd (upd Hg p4 (.lst ((full.take n).map V.str))) p5 (.lst (full.map V.str)) = Hi at dI' bI hBi lI hLi tI toldI ⊢
      -- readable
      refine ⟨_, rfl, _, rfl, _, rfl, _, rfl, _, rfl, d, bk, r, as, its, y, l, full, _, rfl, dI', by omega, hBi.rows, by have := hBi.len; omega, hBi.oks, hLi, hBi.book, hys, hc, by omega, fun z hz => ⟨okS z hz, (hG.ok z hz).2⟩, fun Hj bj dj => ?_⟩
      refine ⟨true, rfl, ?_⟩
      have bJ := bI.trans bj
      have hBj := hB0.but d0 bJ
      -- two by turns
      refine ⟨r, bk, l, as, its, y, full, _, _, _, _, _, _, _, rfl, hBj, hy, hc, hfl, hG, bj _ _ (nlst dI' hLi) hLi, fun Hk x9' sk => ?_⟩
      refine ⟨kvs2, _, _, _, _, _, rfl, bJ.trans (Same.but sk), draw_same (dj.mono (by omega)) sk, sk _ _ (bj _ _ (nlst dI' lI) lI), sk _ _ (bj _ _ nd.symm tI), hkE, toldI.keep fun b xs e => sk _ _ (bj b _ (nlst dI' e) e)⟩
    · rintro σ Ha ⟨kvs, x6, x7, x8, x9, x10, rfl, bA, dA, _⟩
      refine k _ _ _ _ _ _ bA (dA.mono ?_)
      rw [List.length_map]
      have := hB0.len
      omega
end
end K39
/-! By -/
set_option maxHeartbeats 4000000
/-! Book(items=..): how its arguments are bound -/
namespace K39
open PySem PySem.Spec PyProof.Rows L2

theorem book_kb {K : PySem.W.Frag} {f e1 e2 e3 e4 : Addr} {fd : FuncData} (F : FunD K "__init__" "Book.__init__" (defArgs sBookInit) (defBody sBookInit) (defScope sBookInit) [] [("fields", .ref e1), ("items", .ref e2), ("slots", .ref e3), ("contents", .ref e4)] f fd) :
    ∃ mv : List Value, KBn K fd nInit 1 ["items"] (fun us ws => us ++ mv.take 1 ++ ws ++ mv.drop 1) (fun vs zs => vs ++ [V.ref e1] ++ zs ++ [V.ref e3, V.ref e4]) := by
  refine F.kbinds0 1 ["items"] [("fields", .ref e1), ("slots", .ref e3), ("contents", .ref e4)] (fun us mv ws => us ++ mv.take 1 ++ ws ++ mv.drop 1) (by simp) (by simp) (fun r1 r2 r3 => ((r1.append (r2.take 1)).append r3).append (r2.drop 1)) fun D doc pm an cdv ct us mv ws l1 l2 l3 => ?_
  match us, mv, ws, l1, l2, l3 with
  | [x], [a, b, c], [z], _, _, _ =>
    exact ⟨_, _, _, _, _, _, rfl, rfl, _, _, _, _, _, _, rfl, rfl, _, _, _, _, _, _, rfl, rfl, rfl⟩
end K39
/-! Ly -/
set_option maxHeartbeats 8000000
/-! the law -/
namespace K39
open PySem PySem.Spec PyProof.Rows L2 LamX
open PySem.PyData (strOk)

/-- the script, the empty table -/
def spLaw (K : PySem.W.Frag) (PN : Addr) : Sp := fun vs H Q _ => ∃ (a : Addr) (ns : List Int), vs = [.ref a] ∧ SqL K H a (ns.map V.int) ∧ ns.length ≤ 63 ∧ H PN = some (.tbl #[]) ∧ ∀ H', Q (.bl true) H'
theorem idok_ne_A {x : Str} (h : IdOk x) : x ≠ "A" := fun e => by
  obtain ⟨_, ⟨c, r, hr, hc⟩, _⟩ := h
  rw [e] at hr
  have e2 : ("A" : Str).cps.toList = [65] := by decide +kernel
  rw [e2] at hr
  injection hr with h1 _
  have : 97 ≤ c ∧ c ≤ 122 := hc
  omega
section
variable {P : Program} {w : World} {K : PySem.W.Frag} {mg : Str → Option Value} {base : Heap}
theorem ok_law {C fG fH fC fI e1 e2 e3 e4 pP gP fN PN fL : Addr} {fdI fdP fdN fdL : FuncData} (B : Bl mg) (T : BkT K mg C fG fH) (TC : ChT K mg fC) (MB : MkBk K mg C fI e1 e2 e3 e4 fdI) (OI : FnOk P w K mg base CX0 6 fI fdI nInit (spInit C e1 e3 e4))
    (PP : PropOf K C "plain" pP gP) (GP : FnP K "plain" "Book.plain" sBookPlain gP fdP)
    (BE : C8.Cal P w K mg base 1 "_law_begin" (spBegin K) []) (IT : C8.Cal P w K mg base 4 "_law_items" spItems []) (IC : C8.Cal P w K mg base 3 "_law_is_chain" spIsChain []) (NX : C8.Cal P w K mg base 2 "_law_next" spNext [])
    (BG : C8.Cal P w K mg base 3 "_law_begun" (spBegun C) []) (RR : C8.Cal P w K mg base 8 "_law_readable_right" (spRight C) [])
    (NO : FnG P w K mg base 12 fN fdN ["_law_draw", "_law_book", "_law_rows"] (spNone C PN)) (bN : Binds K fdN ["_law_draw", "_law_book", "_law_rows"] []) (mN : mg "_law_none_right" = some (.ref fN)) (kN : PySem.W.keepIn K (.ref fN) = true)
    (FL : Fun K "law" "law" sLaw fL fdL) :
    FnG P w K mg base 13 fL fdL ["_law_script"] (spLaw K PN) ∧ ∀ (s : Shared) (u : Value), BindsTo s fdL ⟨[u], []⟩ [("_law_script", u)] := by
  obtain ⟨oc, od, kV, doc, pm, an, cdv, ct, osl, rfl, lk0, hcd⟩ := FL.ex
  refine ⟨⟨fun vs H Q E h => by obtain ⟨a, ns, rfl, _⟩ := h; rfl, fun A outer s H args us vs Q E hG hr e0 hb r h => ?_⟩, fun s u => BindsTo.of_eq (by rfl)⟩
  have hlen : vs.length = 1 := by obtain ⟨a, ns, rfl, _⟩ := h; rfl
  refine codeAny_mono (run_ofS (N := nLaw) (CX := C8.CX0) (ps := ["_law_script"]) (E := E) lk0 hcd scLaw hr e0 hb r hlen fun hr' => ?_) fun r s' hq => hq
  have hu : (lawCx P w K mg base fL cdv A outer s H E).A.units + 64 < cLine := by
    have := hr'.un
    show (A.deeper _).units + 64 < cLine
    omega
  have hGx : (lawCx P w K mg base fL cdv A outer s H E).A.guards = some [] := hG
  have rp : ∀ {e : Expr} {ta : TE} {p pos : Pos} (ha : PE (lawCx P w K mg base fL cdv A outer s H E) e ta) (hs : starEach [e] (lawCx P w K mg base fL cdv A outer s H E).env = (false, eval e (lawCx P w K mg base fL cdv A outer s H E).env) :: starEach [] (lawCx P w K mg base fL cdv A outer s H E).env),
      PE (lawCx P w K mg base fL cdv A outer s H E) (.Call (.Name "repr" p) [e] [] pos) (tCB (rRepr K) (tCons ta tNil)) := fun ha hs =>
    pe_callB (X := lawCx P w K mg base fL cdv A outer s H E) (call_repr hGx hu) (by rfl) B.repr (by decide +kernel) (pa_cons ha pa_nil hs) (he := hs)
  obtain ⟨mv, KB⟩ := book_kb MB.fd
  -- the getter of plain
  obtain ⟨oc2, od2, dV2, kV2, doc2, pm2, an2, cdv2, ct2, osl2, rfl, lk2, hcd2, hdv2, _⟩ := GP.ex
  obtain rfl : dV2 = .none := dfl_none hdv2
  have GO : FnOk P w K mg base C8.CX0 1 gP _ ["self"] (getSp C "own_parts") := fn_getter (k := 0) (N := ["self"]) lk2 hcd2 (⟨rfl, rfl, rfl, by decide +kernel, rfl, by decide +kernel, by decide +kernel⟩ : FnScope ["self"] ["self"] (defScope sBookPlain)) rfl rfl T.cl MB.nP
  refine ⟨_, PSs.nox (X := cxOf C8.CX0 P w K mg base nLaw "law" (defScope sLaw) fL cdv A outer s H E) (pss_cons (ps_set (i := 1) scLaw.nd rfl (Or.inl rfl) (C8.pe_c BE hr' (by decide) (by rfl) (pa_cons (pv 0) pa_nil)))
    (pss_cons (ps_for PassesOwn.never rfl (pi_range1 (by rfl) B.range (pa_cons pe_int pa_nil)) (pg_name (i := 2) scLaw.nd rfl (Or.inl rfl))
      (pss_cons (ps_set (i := 3) scLaw.nd rfl (Or.inl rfl) (C8.pe_c IT hr' (by decide) (by rfl) (pa_cons (pv 1) pa_nil)))
      (pss_cons (ps_set (i := 4) scLaw.nd rfl (Or.inl rfl) (pe_makeK0 (E := C8.E0) MB.mkc OI (hr'.mono (by decide)) (by rfl) MB.gC KB C8.pass0 (pk_cons (pv 3) pk_nil)))
      (pss_cons (ps_set (i := 5) scLaw.nd rfl (Or.inl rfl) pe_dnewK)
      (pss_cons (o_keys B T TC IC NX BG RR hr')
      (pss_one (ps_if (PW.pt (pw_or (pt_not (pt_val (pe_callG NO hGx hr' mN kN bN (pa_cons (pv 1) (pa_cons (pv 4) (pa_cons (pv 3) pa_nil)))))) (pw_or1 (pt_cmpR op_ne (rp (pe_prop (E := C8.E0) (pv 4) T.cl PP GO (hr'.mono (by decide)) (.all fun us hl => match us, hl with | [_], _ => rfl) .nil C8.pass0 (by rfl)) (by rfl))
          (rp (pe_tup (pa_cons (pe_tup pa_nil) (pa_cons (pv 3) (pa_cons (pe_tup pa_nil) (pa_cons (pe_tup pa_nil) pa_nil))))) (by rfl)) (nomark _))))) (pss_one (ps_ret pe_bl)) pss_nil)))))))
    (pss_one (ps_ret pe_bl)))), ?_⟩
  obtain ⟨a, ns, rfl, hS, hns, hP, k⟩ := h
  refine ⟨_, rfl, a, ns, rfl, hS, by omega, fun H1 d s1 fd1 d1 => ?_⟩
  have T1 : Tabs [(PN, lamQ)] H1 := fun p hp => by
    rw [List.mem_singleton.mp hp]
    exact ⟨#[], s1 _ _ hP, True.intro, fun pos cv hc => by cases hc⟩
  refine ⟨3, rfl, by decide, by decide, for_range (lo := 0) (n := 3) (fun i σ H' => ∃ (x2 x3 x4 x5 x6 x7 x8 x9 x10 : Option V), σ = [some (.ref a), some (.ref d), x2, x3, x4, x5, x6, x7, x8, x9, x10] ∧ DrawOk H' d (200 * i) ∧ Tabs [(PN, lamQ)] H')
    ⟨_, _, _, _, _, _, _, _, _, rfl, d1, T1⟩ ?_ fun σ H' _ => k H'⟩
  rintro i σ Ha hi ⟨x2, x3, x4, x5, x6, x7, x8, x9, x10, rfl, dA, tA⟩
  -- the rows
  refine ⟨_, rfl, d, _, rfl, dA, by omega, fun Hb r as its bB dB hr0 hR hne hl12 hok => ?_⟩
  have oks : ∀ t ∈ its, ItmOk t := fun t ht => (hok t ht).1
  have tB := tabs_but dA bB tA
  -- the book
  refine ⟨_, rfl, rfl, rfl, fun bk dx hx hdx hxx => ?_⟩
  have sN : Same Hb (upd (upd Hb dx (.own bk)) bk (.ins C dx [])) := fun b o e => by
    rw [upd_ne (ne_of_none e hx), upd_ne (ne_of_none e hdx)]
    exact e
  refine ⟨bk, dx, r, as, its, rfl, upd_same, hR.keep (.same sN), by omega, oks, fun Hc hk hBP => ⟨rfl, ?_⟩⟩
  have sC : Same Hb Hc := fun b o e => hk b o (ne_of_none e hx) (sN b o e)
  have dC := draw_same dB sC
  have tC := tB.ext sC
  have hBk : Bk Hc C bk r as its := ⟨hR.keep (.same sC), hne, hl12, hok, hBP.f⟩
  obtain ⟨dx', q, p', kvs', fs, g1, g2, _, g4, _⟩ := hBP.ex
  -- told_here, the keys
  refine fun td htd => ?_
  refine ⟨Hc, d, r, bk, td, as, its, _, _, _, _, _, _, _, _, rfl, rfl, htd, hBk, dC, by omega, fun Hd x6 x7 x8 x9 x10 bD dD => ?_⟩
  have hBd := hBk.but dC bD
  have tD := tabs_but dC bD tC
  -- none_right
  refine ⟨_, rfl, _, rfl, _, rfl, d, bk, r, lkOf its, _, rfl, dD, by omega, hBd.book, lk_none fun t ht => (oks t ht).1.ne, lk_none fun t ht => idok_ne_A (oks t ht).1, lk_none fun t ht => (hok t ht).2, tD, fun He bE dE tE => ?_⟩
  refine ⟨true, rfl, ?_⟩
  have keep : ∀ {b : Addr} {o : HO}, b ≠ d → Hc b = some o → (∀ ps, o ≠ .tbl ps) → He b = some o := fun n e t => bE _ _ n (bD _ _ n e) t
  have k1 := keep (but_ne dC g1 (by simp)) g1 (by simp)
  have k4 := keep (but_ne dC g4 (by simp)) g4 (by simp)
  have tkE : ∀ b xs, Hc b = some (.tup xs) → He b = some (.tup xs) := fun b xs e => keep (but_ne dC e (by simp)) e (by simp)
  have hRe : RowsAt He r as its := hBk.rows.keep tkE
  obtain ⟨p1, p2, p3, p4⟩ := plain_ok hl12 oks
  -- the four parts, as the book tells them and as they are written
  have dpE : ∀ {Hx : Hp} {e : Addr}, EK K e → Dp K Hx (.ref e) (.tuple []) := fun h => .tup h.sq .nil
  refine ⟨_, rfl, bk, dx', fs, rfl, k1, bk, dx', fs, .ref q, rfl, k1, g2, q, dPl its, rfl, RdV.dp (.tup (.of k4) (.cons (dpE MB.k1) (.cons (.tup (.of hRe.1) (dp_items hRe.2)) (.cons (dpE MB.k3) (.cons (dpE MB.k4) .nil))))) p2, p1, p3, p4, ?_⟩
  refine ⟨Nat.zero_le _, fun t1 ht1 => ?_⟩
  have s1 := same_new (o := .tup []) ht1
  refine ⟨_, rfl, Nat.zero_le _, fun t2 ht2 => ?_⟩
  have s2 := same_new (o := .tup []) ht2
  refine ⟨Nat.zero_le _, fun t3 ht3 => ?_⟩
  have s3 := same_new (o := .tup []) ht3
  refine ⟨by show 4 ≤ sizeLine; exact small_sz (by decide), fun t4 ht4 => ?_⟩
  have s4 := same_new (o := .tup [.ref t1, .ref r, .ref t2, .ref t3]) ht4
  have sA := ((s1.trans s2).trans s3).trans s4
  have hRf := hRe.keep (.same sA)
  refine ⟨t4, dPl its, rfl, RdV.dp (.tup (.of upd_same) (.cons (.tup (.of ((s2.trans (s3.trans s4)) _ _ upd_same)) .nil) (.cons (.tup (.of hRf.1) (dp_items hRf.2)) (.cons (.tup (.of ((s3.trans s4) _ _ upd_same)) .nil) (.cons (.tup (.of (s4 _ _ upd_same)) .nil) .nil))))) p2, p1, p3, p4, rfl, _, rfl, ?_⟩
  rw [decide_eq_true rfl]
  exact ⟨_, _, _, _, _, _, _, _, _, rfl, draw_same (dE.mono (by omega)) sA, tE.ext sA⟩
end
end K39
/-! Hk -/
set_option maxHeartbeats 0
/-! what the top leaves: looked at by one Hook -/
namespace HkK
open PySem PySem.Spec PyProof.Rows L2 He K39

abbrev Fg := PySem.W.Frag
def dF (x : Str) (st : Stmt) : DefD := ⟨(x, none), x, x, defArgs st, defBody st, defScope st, [], []⟩
def dM (m q : Str) (st : Stmt) (kwd : List (Str × Dv)) : DefD := ⟨("Book", some m), m, q, defArgs st, defBody st, defScope st, [], kwd⟩
/-- a keyword default of Book.__init__ -/
def kwAt (x : Str) (K : Fg) : Addr := match K.lookup (fAd K ("Book", some "__init__")) with
  | some ⟨_, _, .func fd, _⟩ => (match fd.kwdefaults with
    | .ref D => (match PySem.W.nsIn K D x with
      | some (some (.ref a)) => a
      | _ => 0)
    | _ => 0)
  | _ => 0
def fn1 : List DefD := [dF "is_text" sIsText, dF "is_id" sIsId, dF "first_bad" sFirstBad, dF "is_tuple_of" sIsTupleOf, dF "is_text_of" sIsTextOf, dF "is_head" sIsHead, dF "is_content" sIsContent, dF "is_item" sIsItem, dF "need_part" sNeedPart, dF "first_items" sFirstItems, dF "chain" sChain, dF "readable" sReadable]
def fn2 : List DefD := [dF "_law_begin" sBegin, dF "_law_mixed" sMixed, dF "_law_next" sNext, dF "_law_ids" sIds, dF "_law_fault" sFault, dF "_law_told" sTold, dF "_law_first" sFirst, dF "_law_items" sItems, dF "_law_next_id" sNextId, dF "_law_is_chain" sIsChain, dF "_law_begun" sBegun, dF "_law_shown" sShown, dF "_law_readable_right" sRight, dF "_law_none_right" sNone, dF "law" sLaw]
def fn3 : List DefD := [dM "__getitem__" "Book.__getitem__" sBookGet [], dM "__contains__" "Book.__contains__" sBookHas [], dM "__init__" "Book.__init__" sBookInit [("fields", .adr (kwAt "fields")), ("items", .adr (kwAt "items")), ("slots", .adr (kwAt "slots")), ("contents", .adr (kwAt "contents"))]]
def fn : List DefD := fn1 ++ (fn2 ++ fn3)
def fa1 : List Fa := [.free "int", .free "len", .free "isinstance", .free "str", .free "list", .free "tuple", .free "bool", .free "set", .free "zip", .free "range", .free "ord", .free "all", .free "any", .free "repr", .free "enumerate", .free "super", .free "ValueError"]
def fa2 : List Fa := [.str "LETTERS" "abcdefghijklmnopqrstuvwxyz", .str "DIGITS" "0123456789", .int "MOST_NAME" 16, .int "MOST_CONTENT" 2000, .int "MOST_ELEMENTS" 40, .str "CHAPTER" "chapter", .glo "Book", .cls "Book", .noat "Book" "own_parts", .noat "Book" "own_items", .meth "Book" "__getitem__", .meth "Book" "__contains__", .mkr "Book", .exm "NoItem" "BookError" true]
def fa3 : List Fa := [.glo "BookError", .glo "BadChapter", .glo "BadLink", .glo "BadNumber", .glo "NoSpot", .glo "BadText", .glo "BadBook", .glo "NoItem", .glo "NoChapter", .glo "is_field", .glo "is_slot", .glo "is_entry"]
def fa4 : List Fa := [.glo "is_text", .glo "is_id", .glo "first_bad", .glo "is_tuple_of", .glo "is_text_of", .glo "is_head", .glo "is_content", .glo "is_item", .glo "need_part", .glo "first_items", .glo "chain", .glo "readable"]
def fa5 : List Fa := [.glo "_law_begin", .glo "_law_mixed", .glo "_law_next", .glo "_law_ids", .glo "_law_fault", .glo "_law_told", .glo "_law_first", .glo "_law_items", .glo "_law_next_id", .glo "_law_is_chain", .glo "_law_begun", .glo "_law_shown", .glo "_law_readable_right", .glo "_law_none_right", .glo "law"]
def fa : List Fa := fa1 ++ (fa2 ++ (fa3 ++ (fa4 ++ fa5)))
abbrev veB : List Value := [.type "ValueError", .type "Exception", .type "BaseException", .type "object"]
def bkC (K : Fg) : Addr := ga K "Book"
def niC (K : Fg) : Addr := ga K "NoItem"
def niI (K : Fg) : Addr := ma K (niC K) "__init__"
def mroB (C : Addr) : List Value → Bool
  | .ref D :: bm => decide (D = C) && PySem.HandSPX.refsVE bm
  | _ => false
def slotB : List (Option Value) → Bool
  | [_, _, _, _, some (.builtin n), _] => decide (n = "ValueError.__new__")
  | _ => false
def niB (K : Fg) (C : Addr) : Bool := match K.lookup C with
  | some ⟨.type t, _, .cls cd, sl⟩ => decide (t = "type") && (mroB C cd.mro && (slotB sl.toList && (cd.hasDict && !cd.hasDel)))
  | _ => false
def isNo : Value → Bool
  | .none => true
  | _ => false
def fileB (K : Fg) (cda : Addr) : Bool := match K.lookup cda with
  | some ⟨_, _, .fields vs, _⟩ => (match (vs[2]? : Option Value) with
    | some (.str file _) => (pw.main.file : Str) == file
    | _ => false)
  | _ => false
def codeB (K : Fg) : Value → Bool
  | .ref cda => fileB K cda
  | _ => false
def cellB (K : Fg) (C cc : Addr) : Bool := match K.lookup cc with
  | some ⟨_, _, .cell (some (.ref D)), _⟩ => decide (D = C)
  | _ => false
def closB (K : Fg) (C : Addr) : List (Str × Addr) → Bool
  | [(x, cc)] => decide (x = "__class__") && cellB K C cc
  | _ => false
def niF (K : Fg) (C fI : Addr) : Bool := match K.lookup fI with
  | some ⟨_, _, .func fd, _⟩ => PySem.W.codeIn K fd.code "NoItem.__init__" && (isNo fd.defaults && (isNo fd.kwdefaults && (codeB K fd.code && closB K C fd.closure)))
  | _ => false
def kiB (K : Fg) (x : Str) (b : Bool) : Bool := decide (PySem.W.kitOne K (.ref (niC K)) (.ref (ga K x)) = some b)
def plP (K : Fg) : Addr := ma K (bkC K) "plain"
def plG (K : Fg) : Addr := match PySem.W.recIn K (plP K) "property" with
  | some (.ref g :: _) => g
  | _ => 0
def plR (K : Fg) : Bool := match PySem.W.recIn K (plP K) "property" with
  | some (.ref _ :: _) => true
  | _ => false
def ekB (K : Fg) (e : Addr) : Bool := match K.lookup e with
  | some ⟨.type c, _, .seq its _, _⟩ => decide (c = "tuple") && its.isEmpty
  | _ => false
def dP : He5.DefA := ⟨plG, "plain", "Book.plain", defArgs sBookPlain, defBody sBookPlain, defScope sBookPlain, [], []⟩
def exL (K : Fg) : List Bool := [niB K (niC K), PySem.W.excInitIn K (niC K) veB "ValueError.__new__", eqO (PySem.W.findIn K (.ref (niC K)) "__setattr__") (some (some (.builtin "object.__setattr__"))), eqO (PySem.W.findIn K (.ref (niC K)) "__getattribute__") (some (some (.builtin "BaseException.__getattribute__"))),
  eqO (PySem.W.findIn K (.ref (niC K)) "__getattr__") (some none), eqO (PySem.W.findIn K (.ref (niC K)) "key") (some none), eqO (PySem.W.findIn K (.ref (niC K)) "__init__") (some (some (.ref (niI K)))), decide (PySem.W.typeIn K (.ref (niI K)) = some (.type "function")),
  PySem.W.keepIn K (.ref (niC K)), decide (PySem.W.subIn K (.ref (niC K)) (.type "BaseException") = some true), decide (PySem.W.subIn K (.ref (niC K)) (.type "ValueError") = some true), decide (PySem.W.typeIn K (.ref (niC K)) = some (.type "type")),
  PySem.W.hasDictIn K (niC K), decide (PySem.W.mroIn K (niC K) (.ref (niC K)) = some true), eqO (PySem.W.ks_superIn K (niC K) (niC K) "__init__") (some (some (.builtin "ValueError.__init__"))), eqO (PySem.W.nsIn K cStatics "thirdparty.any") (some none),
  niF K (niC K) (niI K), decide (PySem.W.subIn K (.ref (niC K)) (.type "StopIteration") = some false), decide (PySem.W.kitOne K (.ref (niC K)) (.type "ValueError") = some true), eqO (PySem.W.findIn K (.ref (niC K)) "__class__") (some (some (.builtin "object.__class__"))),
  kiB K "BadBook" false, kiB K "BadChapter" false, kiB K "BadLink" false, kiB K "BadNumber" false, kiB K "BadText" false, kiB K "NoSpot" false, kiB K "NoItem" true, kiB K "NoChapter" false,
  PySem.W.fnIn K (ma K (bkC K) "__getitem__"), PySem.W.fnIn K (ma K (bkC K) "__contains__"), eqO (PySem.W.findIn K (.ref (bkC K)) "plain") (some (some (.ref (plP K)))), eqO (PySem.W.specialIn K (.ref (plP K)) "__get__") (some (some (.builtin "property.__get__"))),
  decide (PySem.W.takesIn K (.ref (plP K)) = some true), plR K, ekB K (kwAt "fields" K), ekB K (kwAt "slots" K), ekB K (kwAt "contents" K), dP.ok K,
  eqO (PySem.W.specialIn K (.builtin "object.__class__") "__get__") (some (some (.builtin "getset_descriptor.__get__"))), decide (PySem.W.takesIn K (.builtin "object.__class__") = some true), decide (PySem.W.mroIn K (niC K) (.type "object") = some true)]
def exB (K : Fg) : Bool := (exL K).all fun b => b
/-- NoItem.__init__, its closure by names -/
abbrev FnC : Type := Option (Str × Str × Arguments × FuncBody × Scope × Addr × Addr)
def fnC (K : Fg) (a : Addr) : FnC := match K.lookup a with
  | some ⟨_, _, .func fd, _⟩ => some (fd.name, fd.qualname, fd.params, fd.body, fd.scope, fd.globals, fd.builtins)
  | _ => none
def vaN : FnC := some (("__init__" : Str), ("NoItem.__init__" : Str), defArgs sNoItemInit, FuncBody.stmts (defBody sNoItemInit), defScope sNoItemInit, mainGlobals, builtinsNs)
abbrev dNone : Defn := ("_law_none_right", none)
def asK (g : Addr → Option Obj) (n : Nat) : List Addr := asD g n ++ [cStatics]
abbrev AlK : Type := AlD × (Bool × (FnC × FnW))
def obK (g : Addr → Option Obj) (K : Fg) : AlK := (obsD fa fn K, exB K && (PySem.W.codeHdIn K (cT K dNone).1 (cT K dNone).2 && (match g (cT K dNone).2 with
  | some o => emptyTab o
  | none => false)), fnC K (niI K), He5.fnA K (plG K))
def vaK : AlK := (valD fn, true, vaN, dP.val)
def obG (n : Nat) (g : Addr → Option Obj) : AlK := obK g (frT g (asK g n))
/-- what is told at a heap -/
structure Says (h : Heap) (K : Fg) : Prop where
  d : SaysD fa fn K
  ex : exB K = true
  hd : PySem.W.codeHdIn K (cT K dNone).1 (cT K dNone).2 = true
  out : K.lookup (cT K dNone).2 = none
  emp : h.get? (cT K dNone).2 = some { cls := .none, data := .fields #[] }
  ni : fnC K (niI K) = vaN
  pl : He5.fnA K (plG K) = dP.val
theorem says_of {n : Nat} {h : Heap} (e : obG n h.get? = vaK) : Says h (frT h.get? (asK h.get? n)) := by
  unfold obG at e
  generalize hK : frT h.get? (asK h.get? n) = K at e ⊢
  have a1 := congrArg (fun z : AlK => z.1) e
  have a2 := congrArg (fun z : AlK => z.2.1) e
  have a3 := congrArg (fun z : AlK => z.2.2.1) e
  have a4 := congrArg (fun z : AlK => z.2.2.2) e
  obtain ⟨b1, b2⟩ := ba a2
  obtain ⟨b3, b4⟩ := ba b2
  cases q : h.get? (cT K dNone).2 with
  | none =>
    rw [q] at b4
    exact absurd b4 Bool.false_ne_true
  | some o =>
    rw [q] at b4
    refine ⟨a1, b1, b3, ?_, by rw [q, emptyTab_eq b4], a3, a4⟩
    rw [← hK] at q ⊢
    exact frT_none q b4
def hk (n : Nat) : PySem.W.Hook where
  α := AlK
  obs := fun s => obG n s.heap.get?
  val := fun _ => vaK
  says := fun _ h => ∃ K : Fg, K.In h ∧ Says h K
  of := fun _ _ e => ⟨_, frT_in, says_of e⟩
  keeps := fun _ _ _ ⟨K, hK, c⟩ k => ⟨K, PySem.W.Frag.In.keeps hK k, ⟨c.d, c.ex, c.hd, c.out, k _ _ c.emp, c.ni, c.pl⟩⟩
abbrev nDeep : Nat := 6
def ob (s : PySem.W.SharedT) : AlK := obG nDeep (HandSHeadRun.getT s)
theorem ob_eq (s : PySem.W.SharedT) : ob s = (hk nDeep).obs s.abs := by
  have e : HandSHeadRun.getT s = s.abs.heap.get? := funext (HandSHeadRun.getT_eq s)
  show obG nDeep (HandSHeadRun.getT s) = obG nDeep s.abs.heap.get?
  rw [e]
abbrev R : PySem.W.OpenRow := PySem.W.OpenLaw.row PySem.Challenge.rw_bookpack_k39_whole_chains
abbrev qv : Program := PySem.W.view R.prog [66]
def names : List Str := (["_wall", "BookError", "BadChapter", "BadLink", "BadNumber", "NoSpot", "BadText", "BadBook", "NoItem", "NoChapter", "BOX_KINDS", "LINE_KINDS", "STYLES", "MOST_TOKENS", "MOST_OPEN", "MOST_NAME"] : List Str) ++ (["MOST_OUT", "PERCENT", "LETTERS", "DIGITS", "is_whole", "is_text", "is_id", "is_link", "sort_of", "is_char", "is_token", "can_stand", "first_bad", "CHAPTER", "OUT", "MOST_ELEMENTS"] : List Str) ++ (["MOST_VALUE", "MOST_CONTENT", "MOST_LABEL", "is_tuple_of", "is_text_of", "is_field", "is_head", "is_content", "is_item", "is_slot", "is_entry", "need_part", "first_items", "Book", "chain", "readable"] : List Str) ++ (["_law_begin", "_law_mixed", "_law_next", "_law_ids", "_law_fault", "_law_told", "_law_first", "_law_items", "_law_next_id", "_law_is_chain", "_law_begun", "_law_shown", "_law_readable_right", "_law_none_right"] : List Str)
end HkK
/-! Hr -/
set_option maxHeartbeats 0
namespace HkK
open PySem PySem.Spec PyProof.Rows L2 He K39
theorem run (w : World) : HandSHeadRun.RunEq R qv (hk nDeep) ob 6000 names w := by
  intro os
  kernel_rfl
end HkK
/-! Hf -/
set_option maxHeartbeats 4000000
/-! what the top leaves: as the promises ask for it -/
namespace HkK
open PySem PySem.Spec PyProof.Rows L2 He K39

theorem mroB_ok {C : Addr} {l : List Value} (e : mroB C l = true) : ∃ bm, l = .ref C :: bm ∧ PySem.HandSPX.refsVE bm = true := by
  unfold mroB at e
  split at e
  · obtain ⟨x1, y1⟩ := ba e
    have x2 := of_decide_eq_true x1
    subst x2
    exact ⟨_, rfl, y1⟩
  · exact absurd e Bool.false_ne_true
theorem slotB_ok {l : List (Option Value)} (e : slotB l = true) : ∃ k0 k1 k2 k3 k5, l = [k0, k1, k2, k3, some (.builtin "ValueError.__new__"), k5] := by
  unfold slotB at e
  split at e
  · have x1 := of_decide_eq_true e
    subst x1
    exact ⟨_, _, _, _, _, rfl⟩
  · exact absurd e Bool.false_ne_true
theorem niB_ok {K : Fg} {C : Addr} (e : niB K C = true) : ∃ nm q N bs bm sn sub ab col dd k0 k1 k2 k3 k5, K.lookup C = some (excClassObj nm q C N bs bm true sn sub ab col dd k0 k1 k2 k3 k5 "ValueError.__new__") ∧ PySem.HandSPX.refsVE bm = true := by
  unfold niB at e
  split at e
  · rename_i t dd cd sl ho
    obtain ⟨et, e⟩ := ba e
    obtain ⟨e1, e⟩ := ba e
    obtain ⟨e2, e⟩ := ba e
    obtain ⟨e3, e4⟩ := ba e
    have et := of_decide_eq_true et
    subst et
    obtain ⟨bm, hm, e5⟩ := mroB_ok e1
    obtain ⟨k0, k1, k2, k3, k5, hs⟩ := slotB_ok e2
    obtain ⟨nm, bs, mro, nsp, qn, hdc, sn, sub, ab, col, del⟩ := cd
    obtain ⟨l⟩ := sl
    have hm' : mro = _ := hm
    have hs' : l = _ := hs
    have h3 : hdc = true := e3
    have h4 : del = false := by
      cases del with
      | false => rfl
      | true => exact absurd (show (!true) = true from e4) (by decide)
    subst hm' hs' h3 h4
    exact ⟨nm, qn, nsp, bs, bm, sn, sub, ab, col, dd, k0, k1, k2, k3, k5, ho, e5⟩
  · exact absurd e Bool.false_ne_true
theorem isNo_ok {v : Value} (h : isNo v = true) : v = .none := by
  cases v with
  | none => rfl
  | _ => exact absurd h Bool.false_ne_true
theorem fileB_ok {K : Fg} {cda : Addr} (e : fileB K cda = true) : ∃ (ccl : Value) (cdd : Option Addr) (vs : Array Value) (ccs : Array (Option Value)) (file : Str) (tf : Tok), K.lookup cda = some ⟨ccl, cdd, .fields vs, ccs⟩ ∧ vs[2]? = some (.str file tf) ∧ ((pw.main.file : Str) == file) = true := by
  unfold fileB at e
  split at e
  · rename_i h1
    split at e
    · rename_i h2
      exact ⟨_, _, _, _, _, _, h1, h2, e⟩
    · exact absurd e Bool.false_ne_true
  · exact absurd e Bool.false_ne_true
theorem closB_ok {K : Fg} {C : Addr} {cl : List (Str × Addr)} (e : closB K C cl = true) : ∃ cc, cl = [(("__class__" : Str), cc)] ∧ ∃ (c : Value) (cld : Option Addr) (csl : Array (Option Value)), K.lookup cc = some ⟨c, cld, .cell (some (.ref C)), csl⟩ := by
  unfold closB at e
  split at e
  · obtain ⟨x1, e⟩ := ba e
    have x1 := of_decide_eq_true x1
    subst x1
    unfold cellB at e
    split at e
    · rename_i h1
      have xD := of_decide_eq_true e
      subst xD
      exact ⟨_, rfl, _, _, _, h1⟩
    · exact absurd e Bool.false_ne_true
  · exact absurd e Bool.false_ne_true
theorem niF_ok {K : Fg} {C fI : Addr} (e : niF K C fI = true) (en : fnC K fI = vaN) : ∃ (oc : Value) (od : Option Addr) (doc pm : Value) (an : Option Addr) (cda : Addr) (ct : Value) (osl : Array (Option Value)) (cc : Addr),
    K.lookup fI = some ⟨oc, od, .func (PySem.W.ksFn "__init__" "NoItem.__init__" (defArgs sNoItemInit) (defBody sNoItemInit) (defScope sNoItemInit) .none .none doc pm an (.ref cda) ct cc), osl⟩ ∧ PySem.W.codeIn K (.ref cda) "NoItem.__init__" = true ∧
    (∃ (ccl : Value) (cdd : Option Addr) (vs : Array Value) (ccs : Array (Option Value)) (file : Str) (tf : Tok), K.lookup cda = some ⟨ccl, cdd, .fields vs, ccs⟩ ∧ vs[2]? = some (.str file tf) ∧ ((pw.main.file : Str) == file) = true) ∧
    ∃ (cl : Value) (cld : Option Addr) (csl : Array (Option Value)), K.lookup cc = some ⟨cl, cld, .cell (some (.ref C)), csl⟩ := by
  unfold niF at e
  unfold fnC at en
  cases q : K.lookup fI with
  | none => rw [q] at e; exact absurd e Bool.false_ne_true
  | some o =>
    obtain ⟨oc, od, dt, osl⟩ := o
    rw [q] at e en
    cases dt with
    | func fd =>
      obtain ⟨n1, n2, n3, n4, n5, n6, n7, n8, n9, n10, n11, n12, n13, n14, n15⟩ := fd
      have en2 : (some (n1, n2, n3, n4, n5, n6, n15) : FnC) = vaN := en
      unfold vaN at en2
      simp only [Option.some.injEq, Prod.mk.injEq] at en2
      obtain ⟨h1, h2, h3, h4, h5, h6, h7⟩ := en2
      subst h1 h2 h3 h4 h5 h6 h7
      obtain ⟨c1, e⟩ := ba e
      obtain ⟨c2, e⟩ := ba e
      obtain ⟨c3, e⟩ := ba e
      obtain ⟨c4, c5⟩ := ba e
      have d2 : n8 = .none := isNo_ok c2
      have d3 : n9 = .none := isNo_ok c3
      subst d2 d3
      have c1' : PySem.W.codeIn K n13 "NoItem.__init__" = true := c1
      obtain ⟨cda, rfl⟩ := codeIn_ref c1'
      have c4' : fileB K cda = true := c4
      have c5' : closB K C n7 = true := c5
      obtain ⟨cc, rfl, f5⟩ := closB_ok c5'
      exact ⟨oc, od, n10, n11, n12, cda, n14, osl, cc, rfl, c1', fileB_ok c4', f5⟩
    | _ => exact absurd e Bool.false_ne_true
section
variable {h : Heap} {K : Fg} {mg : Str → Option Value}
theorem Says.x (c : Says h K) (i : Nat) {b : Bool} (e : (exL K)[i]? = some b := by rfl) : b = true := List.all_eq_true.mp c.ex b (List.mem_of_getElem? e)
theorem Says.glo (c : Says h K) (X : K.In h) (G : h.Ns mainGlobals mg) (i : Nat) {x : Str} (e : fa[i]? = some (.glo x) := by rfl) : mg x = some (.ref (ga K x)) := glo_ok X G (c.d.fact i e)
theorem Says.free (c : Says h K) (X : K.In h) (G : h.Ns mainGlobals mg) (i : Nat) {x : Str} (e : fa[i]? = some (.free x) := by rfl) : mg x = none := free_ok X G (c.d.fact i e)
theorem Says.fnP (c : Says h K) (i : Nat) {x : Str} {st : Stmt} (e : fn[i]? = some (dF x st) := by rfl) : ∃ fd, FnP K x x st (ga K x) fd := c.d.def_ i e
theorem Says.fnA (c : Says h K) (X : K.In h) (G : h.Ns mainGlobals mg) (i : Nat) {x : Str} {st : Stmt} (e : fn[i]? = some (dF x st) := by rfl) (e2 : fa[43 + i]? = some (.glo x) := by rfl) : FnA K mg x st := by
  obtain ⟨fd, F⟩ := c.fnP i e
  exact ⟨_, fd, He5.fun_of F, c.glo X G (43 + i) e2⟩
theorem Says.bl (c : Says h K) (X : K.In h) (G : h.Ns mainGlobals mg) : Bl mg :=
  ⟨c.free X G 0, c.free X G 1, c.free X G 2, c.free X G 3, c.free X G 4, c.free X G 5, c.free X G 6, c.free X G 7, c.free X G 8, c.free X G 9, c.free X G 10, c.free X G 11, c.free X G 12, c.free X G 13, c.free X G 14⟩
theorem Says.cst (c : Says h K) (X : K.In h) (G : h.Ns mainGlobals mg) : Cst mg := by
  have s : ∀ (i : Nat) (x z : Str), fa[i]? = some (.str x z) → ∃ u, mg x = some u ∧ RelV (.str z) u := fun i x z e => by
    obtain ⟨t, ht⟩ := str_ok X G (c.d.fact i e)
    exact ⟨_, ht, t, rfl⟩
  have n : ∀ (i : Nat) (x : Str) (z : Int), fa[i]? = some (.int x z) → ∃ u, mg x = some u ∧ RelV (.int z) u := fun i x z e => by
    obtain ⟨t, ht⟩ := int_ok X G (c.d.fact i e)
    exact ⟨_, ht, t, rfl⟩
  exact ⟨s 17 _ _ rfl, s 18 _ _ rfl, n 19 _ _ rfl, n 20 _ _ rfl, n 21 _ _ rfl, s 22 _ _ rfl⟩
theorem Says.bkT (c : Says h K) (X : K.In h) (G : h.Ns mainGlobals mg) : BkT K mg (bkC K) (ma K (bkC K) "__getitem__") (ma K (bkC K) "__contains__") := by
  have mG : Meth K (bkC K) "__getitem__" (ma K (bkC K) "__getitem__") := meth_ok (c.d.fact 27 (f := .meth "Book" "__getitem__") rfl)
  have mH : Meth K (bkC K) "__contains__" (ma K (bkC K) "__contains__") := meth_ok (c.d.fact 28 (f := .meth "Book" "__contains__") rfl)
  exact ⟨cls_ok (c.d.fact 24 (f := .cls "Book") rfl), noat_ok (c.d.fact 25 (f := .noat "Book" "own_parts") rfl), noat_ok (c.d.fact 26 (f := .noat "Book" "own_items") rfl), mG.at_, mG.fn, c.x 28, mH.at_, mH.fn,
    c.d.def_ 27 (d := dM "__getitem__" "Book.__getitem__" sBookGet []) rfl, c.d.def_ 28 (d := dM "__contains__" "Book.__contains__" sBookHas []) rfl, c.free X G 2, c.free X G 3⟩
theorem Says.chT (c : Says h K) (X : K.In h) (G : h.Ns mainGlobals mg) : ChT K mg (ga K "chain") := by
  obtain ⟨fd, F⟩ := c.fnP 10 (x := "chain") (st := sChain)
  exact ⟨⟨fd, F⟩, c.glo X G 53, F.kp⟩
theorem Says.niT (c : Says h K) (X : K.In h) (G : h.Ns mainGlobals mg) : NiTxt pw K mg (niC K) (niI K) where
  gC := c.glo X G 38
  cls := niB_ok (c.x 0)
  xi := c.x 1
  sa := eqO_ok (c.x 2)
  ga := eqO_ok (c.x 3)
  gg := eqO_ok (c.x 4)
  noN := eqO_ok (c.x 5)
  iC := eqO_ok (c.x 6)
  tC := of_decide_eq_true (c.x 7)
  kC := c.x 8
  exC := of_decide_eq_true (c.x 9)
  veC := of_decide_eq_true (c.x 10)
  tyC := of_decide_eq_true (c.x 11)
  hdC := c.x 12
  selfC := of_decide_eq_true (c.x 13)
  su := eqO_ok (c.x 14)
  nosup := c.free X G 15
  opq := eqO_ok (c.x 15)
  fn := niF_ok (c.x 16) c.ni
  main := by kernel_rfl
theorem Says.flt (c : Says h K) (X : K.In h) (G : h.Ns mainGlobals mg) : FltC K mg (niC K) where
  err := ⟨eqO_ok (c.x 3), eqO_ok (c.x 4), of_decide_eq_true (c.x 9), c.x 12, eqO_ok (c.x 19), eqO_ok (c.x 38), of_decide_eq_true (c.x 39), of_decide_eq_true (c.x 40)⟩
  fld := ⟨eqO_ok (c.x 3), eqO_ok (c.x 4), of_decide_eq_true (c.x 9), c.x 12⟩
  noN := eqO_ok (c.x 5)
  ve := c.free X G 16
  kve := of_decide_eq_true (c.x 18)
  cBadBook := ⟨_, c.glo X G 37, of_decide_eq_true (c.x 20)⟩
  cBadChapter := ⟨_, c.glo X G 32, of_decide_eq_true (c.x 21)⟩
  cBadLink := ⟨_, c.glo X G 33, of_decide_eq_true (c.x 22)⟩
  cBadNumber := ⟨_, c.glo X G 34, of_decide_eq_true (c.x 23)⟩
  cBadText := ⟨_, c.glo X G 36, of_decide_eq_true (c.x 24)⟩
  cNoSpot := ⟨_, c.glo X G 35, of_decide_eq_true (c.x 25)⟩
  cNoItem := ⟨_, c.glo X G 38, of_decide_eq_true (c.x 26)⟩
  cNoChapter := ⟨_, c.glo X G 39, of_decide_eq_true (c.x 27)⟩
theorem ekB_ok {K : Fg} {e : Addr} (q : ekB K e = true) : EK K e := by
  unfold ekB at q
  split at q
  · rename_i cc od its n osl ho
    obtain ⟨q1, q2⟩ := ba q
    have q1 := of_decide_eq_true q1
    have q2 := Array.isEmpty_iff.mp q2
    subst q1 q2
    exact ⟨_, n, ho, rfl, rfl⟩
  · exact absurd q Bool.false_ne_true
theorem Says.mkBk (c : Says h K) (X : K.In h) (G : h.Ns mainGlobals mg) : ∃ fd, MkBk K mg (bkC K) (ma K (bkC K) "__init__") (kwAt "fields" K) (kwAt "items" K) (kwAt "slots" K) (kwAt "contents" K) fd := by
  obtain ⟨fd, F⟩ := c.d.def_ 29 (d := dM "__init__" "Book.__init__" sBookInit [("fields", .adr (kwAt "fields")), ("items", .adr (kwAt "items")), ("slots", .adr (kwAt "slots")), ("contents", .adr (kwAt "contents"))]) rfl
  have T := c.bkT X G
  exact ⟨fd, c.glo X G 23, mkr_ok (c.d.fact 29 (f := .mkr "Book") rfl), T.cl, T.nP, T.nI, F, ekB_ok (c.x 34), ekB_ok (c.x 35), ekB_ok (c.x 36), ⟨_, c.glo X G 40⟩, ⟨_, c.glo X G 41⟩, ⟨_, c.glo X G 42⟩⟩
theorem Says.prop (c : Says h K) : PropOf K (bkC K) "plain" (plP K) (plG K) := by
  refine ⟨eqO_ok (c.x 30), eqO_ok (c.x 31), of_decide_eq_true (c.x 32), ?_⟩
  have r : plR K = true := c.x 33
  unfold plR at r
  unfold plG
  split at r
  · rename_i g rest e
    rw [e]
    exact ⟨rest, rfl⟩
  · exact absurd r Bool.false_ne_true
theorem Says.plain (c : Says h K) : ∃ fd, FnP K "plain" "Book.plain" sBookPlain (plG K) fd := He5.DefA.funD (d := dP) c.pl (c.x 37)
/-- the code object of none_right, its table -/
abbrev cNo (K : Fg) : Addr := (cT K dNone).1
abbrev tNo (K : Fg) : Addr := (cT K dNone).2
theorem Says.lamT (c : Says h K) (X : K.In h) (G : h.Ns mainGlobals mg) {base : Heap} (tb : LamX.TabB base mg (cNo K) (tNo K)) : LamT K mg base (ga K "_law_none_right") (cNo K) (tNo K) (ga K "_law_told") := by
  obtain ⟨fd, F⟩ := c.fnP 25 (x := "_law_none_right") (st := sNone)
  obtain ⟨fdT, FT⟩ := c.fnP 17 (x := "_law_told") (st := sTold)
  have kp := F.kp
  obtain ⟨oc, od, dV, kV, doc, pm, an, cdv, ct, osl, rfl, lk, hcd, hdv, _⟩ := F.ex
  obtain rfl : dV = .none := dfl_none hdv
  obtain ⟨cc, rfl⟩ := codeIn_ref hcd
  have e : codeOf K dNone = cc := codeOf_eq (p := dNone) lk rfl
  refine ⟨⟨oc, od, kV, doc, pm, an, ct, osl, ?_, ?_⟩, c.glo X G 68, kp, tb, ⟨fdT, He5.fun_of FT⟩, c.glo X G 60⟩
  · show K.lookup _ = some ⟨_, _, .func (PySem.W.fnOf _ _ _ _ _ _ _ _ _ _ (.ref (codeOf K dNone)) _), _⟩
    rw [e]
    exact lk
  · show PySem.W.codeIn K (.ref (codeOf K dNone)) _ = true
    rw [e]
    exact hcd
end
end HkK
/-! Le -/
set_option maxHeartbeats 4000000
/-! the law's end: one table, no guard stands -/
namespace HkK
open PySem PySem.Spec PyProof.Rows L2 He K39

/-- what is tracked at the law's entry: the table at t; the script at a, where the written part has it not -/
def ent (K : Fg) (a t : Addr) (ob : Obj) (xs : List V) : Hp := fun b =>
  if b = t then some (.tbl #[])
  else if b = a ∧ (K.lookup a).isNone = true then some (.frz ob (.lst xs))
  else none
section
variable {K : Fg} {a t b : Addr} {ob : Obj} {xs : List V}
theorem ent_t : ent K a t ob xs t = some (.tbl #[]) := if_pos rfl
theorem ent_cases {u : HO} (h : ent K a t ob xs b = some u) : (b = t ∧ u = .tbl #[]) ∨ (b = a ∧ (K.lookup a).isNone = true ∧ u = .frz ob (.lst xs)) := by
  unfold ent at h
  by_cases hb : b = t
  · rw [if_pos hb] at h
    exact .inl ⟨hb, (Option.some.inj h).symm⟩
  · rw [if_neg hb] at h
    by_cases ha : b = a ∧ (K.lookup a).isNone = true
    · rw [if_pos ha] at h
      exact .inr ⟨ha.1, ha.2, (Option.some.inj h).symm⟩
    · rw [if_neg ha] at h
      cases h
theorem ent_none (h1 : b ≠ t) (h2 : b ≠ a) : ent K a t ob xs b = none := by
  cases e : ent K a t ob xs b with
  | none => rfl
  | some u =>
    rcases ent_cases e with z | z
    · exact absurd z.1 h1
    · exact absurd z.1 h2
theorem ent_K {o : Obj} (h : K.lookup b = some o) (ht : K.lookup t = none) : ent K a t ob xs b = none := by
  cases e : ent K a t ob xs b with
  | none => rfl
  | some u =>
    rcases ent_cases e with ⟨rfl, _⟩ | ⟨rfl, z, _⟩
    · rw [ht] at h; cases h
    · rw [h] at z; cases z
end
abbrev noFields : Obj := { cls := .none, data := .fields #[] }
theorem law_end {P : Program} {w : World} {K : Fg} {mg mb : Str → Option Value} {k : Nat} {fa a c t : Addr} {fd : FuncData} {x : Str} {sp : Sp} {s : Shared} {vs : List Value} {ns : List Int}
    (KX : K.In s.heap) (gl : s.heap.Ns mainGlobals mg) (bl : s.heap.Ns builtinsNs mb) (blt : ∀ y : Str, y ≠ "__name__" → mb y = bootBuiltins y) (lim : s.heap.NoLimit) (ng : s.gens = #[])
    (ht : s.heap.get? t = some noFields) (nt : K.lookup t = none) (hd : PySem.W.codeHdIn K c t = true)
    (bm : ∃ (m : Addr) (o : Obj), mg "__builtins__" = some (.ref m) ∧ m ≠ builtinsNs ∧ s.heap.get? m = some o ∧ o.cls = .type "module" ∧ o.dict = some builtinsNs ∧ o.data = .plain)
    (ha : s.heap.get? a = some { cls := .type "list", data := .seq vs.toArray }) (hi : IntsAre vs ns) (hl : ns.length ≤ sizeLine) (hr : Room k callerA)
    (F : ∀ base : Heap, K.In base → base.Ns mainGlobals mg → LamX.TabB base mg c t → FnG P w K mg base k fa fd [x] sp) (bi : ∀ (s : Shared) (u : Value), BindsTo s fd ⟨[u], []⟩ [(x, u)])
    (hsp : ∀ H : Hp, H t = some (.tbl #[]) → SqL K H a (ns.map V.int) → sp [.ref a] H (fun v _ => v = .bl true) fun _ _ _ => False) :
    codeAny (model P w) callerA (.call (.ref fa) ⟨[.ref a], []⟩) (fun r s' => r = .ok (.ret (.bool true)) ∧ OldK s.heap s'.heap ∧ s'.os = s.os ∧ AllBare s'.gens) s := by
  have rel := vals_ints hi
  have len := hi.length
  obtain ⟨H, eH⟩ : ∃ H, H = ent K a t { cls := .type "list", data := .seq vs.toArray } (ns.map V.int) := ⟨_, rfl⟩
  have Ht : H t = some (.tbl #[]) := by rw [eH]; exact ent_t
  have Hc : ∀ {b u}, H b = some u → (b = t ∧ u = .tbl #[]) ∨ (b = a ∧ (K.lookup a).isNone = true ∧ u = .frz { cls := .type "list", data := .seq vs.toArray } (.lst (ns.map V.int))) := fun {b u} h => by rw [eH] at h; exact ent_cases h
  -- an object of another kind is not tracked
  have off : ∀ {b : Addr} {o : Obj}, s.heap.get? b = some o → o ≠ noFields → o ≠ { cls := .type "list", data := .seq vs.toArray } → H b = none := fun {b o} e n1 n2 => by
    rw [eH]
    refine ent_none (fun z => n1 ?_) fun z => n2 ?_
    · rw [z, ht] at e
      exact (Option.some.inj e).symm
    · rw [z, ha] at e
      exact (Option.some.inj e).symm
  have offD : ∀ {b : Addr} {o : Obj} {es : Array DictEntry} {ep : Nat}, s.heap.get? b = some o → o.data = .dict es ep → H b = none := fun {b o es ep} e d => off e (fun z => by rw [z] at d; cases d) fun z => by rw [z] at d; cases d
  have nsB : ∀ {b : Addr} {m : Str → Option Value}, s.heap.Ns b m → (hidT s.heap H).Ns b m := fun {b m} q => by
    obtain ⟨o, es, ep, e, d, r⟩ := q
    exact ⟨o, es, ep, hidT_get e (offD e d), d, r⟩
  have KB : K.In (hidT s.heap H) := fun b o e => hidT_get (KX b o e) (by rw [eH]; exact ent_K e nt)
  have M : L2.Mod K mg (hidT s.heap H) := by
    obtain ⟨mc, l1, l2⟩ := lim
    exact ⟨KB, nsB gl, ⟨mb, nsB bl, blt⟩, mc, nsB l1, l2⟩
  have gt : mainGlobals ≠ t := fun z => by
    obtain ⟨o, es, ep, e, d, _⟩ := gl
    rw [z, ht] at e
    cases e
    cases d
  have TB : LamX.TabB (hidT s.heap H) mg c t := by
    obtain ⟨m, o, b1, b2, b3, b4, b5, b6⟩ := bm
    refine ⟨PySem.W.codeHd_of_K KB hd, ⟨m, o, b1, b2, fun z => ?_, fun z => ?_, hidT_get b3 (off b3 (fun z => by rw [z] at b6; cases b6) fun z => by rw [z] at b6; cases b6), b4, b5, b6⟩, gt⟩
    · obtain ⟨o2, es, ep, e, d, _⟩ := gl
      rw [z, e] at b3
      cases b3
      rw [d] at b6
      cases b6
    · rw [z, ht] at b3
      cases b3
      cases b6
  have ok : HOk P w H s.heap := fun b u h => by
    rcases Hc h with ⟨rfl, rfl⟩ | ⟨rfl, _, rfl⟩
    · exact ht
    · exact ⟨ha, by rw [List.length_map]; exact hl, vs, _, rel, ha⟩
  have sq : SqL K H a (ns.map V.int) := by
    cases e : K.lookup a with
    | some o =>
      have z := KX a o e
      rw [ha] at z
      have z' := Option.some.inj z
      subst z'
      exact .inr ⟨_, vs.toArray, _, e, rfl, rfl, rfl, by rw [List.size_toArray, len]; exact hl, by simpa using rel⟩
    | none =>
      refine .inl (.inr ⟨{ cls := .type "list", data := .seq vs.toArray }, ?_⟩)
      rw [eH]
      unfold ent
      rw [if_neg (fun z => by rw [z, ht] at ha; cases ha), if_pos ⟨rfl, by rw [e]; rfl⟩]
  have E0 : Env0 P w K mg (hidT s.heap H) callerA [] s H := ⟨rfl, M, fun _ _ e => of_hidT e, Nat.le_of_eq (hidT_size _ _), trivial, fun b hb => (List.not_mem_nil (a := b) hb).elim, ok, .of_eq ng⟩
  refine codeAny_mono ((F _ KB (nsB gl) TB).run callerA [] s H ⟨[.ref a], []⟩ [.ref a] [.ref a] _ _ rfl hr E0 (bi s (.ref a)) (.cons rfl .nil) (hsp H Ht sq)) fun r s' q => ?_
  cases r with
  | error e => exact False.elim q
  | ok f =>
    cases f with
    | next => exact False.elim q
    | brk => exact False.elim q
    | cont => exact False.elim q
    | ret u =>
      obtain ⟨v, H', os, bare, un, ok', rv, qv⟩ := q
      have qv' : v = .bl true := qv
      subst qv'
      obtain rfl : u = Value.bool true := rv
      obtain ⟨more, hm⟩ := un.tbls t #[] Ht
      have tab' : s'.heap.get? t = some { cls := .none, data := .fields (#[] ++ more) } := ok' t _ hm
      have keep : ∀ b o, b ≠ t → s.heap.get? b = some o → s'.heap.get? b = some o := fun b o n e => by
        cases z : H b with
        | none => exact un.keep b o e z (fun y => (List.not_mem_nil (a := b) y).elim) (fun y => (List.not_mem_nil (a := b) y).elim)
        | some u =>
          rcases Hc z with ⟨y, _⟩ | ⟨rfl, _, rfl⟩
          · exact absurd y n
          · rw [ha] at e
            obtain ⟨g, _⟩ := ok' b _ (un.frzs b _ _ z)
            rw [← e]
            exact g
      refine ⟨rfl, ⟨fun b o e => ?_, fun b o e => ?_⟩, os, bare⟩
      · by_cases n : b = t
        · subst n
          rw [ht] at e
          cases e
          exact .inr (.inl ⟨((PySem.W.codeHd_of_K KX hd).tab ht).isCodeTable, rfl, #[], #[] ++ more, rfl, by rw [Array.empty_append, Array.empty_append]; rw [Array.empty_append] at tab'; exact tab'⟩)
        · exact .inl (keep b o n e)
      · by_cases n : b = t
        · exact ⟨_, by rw [n]; exact tab'⟩
        · exact ⟨o, keep b o n e⟩
end HkK
/-! Fn -/
set_option maxHeartbeats 4000000
/-! all promises, from what the top leaves -/
namespace HkK
open PySem PySem.Spec PyProof.Rows L2 He K39

theorem facts {w : World} {h base : Heap} {K : Fg} {mg : Str → Option Value} {fL : Addr} {fdL : FuncData} (c : Says h K) (X : K.In h) (G : h.Ns mainGlobals mg) (tb : LamX.TabB base mg (cNo K) (tNo K)) (FL : Fun K "law" "law" sLaw fL fdL) :
    FnG pw w K mg base 13 fL fdL ["_law_script"] (spLaw K (tNo K)) ∧ ∀ (s : Shared) (u : Value), BindsTo s fdL ⟨[u], []⟩ [("_law_script", u)] := by
  have B := c.bl X G
  have C := c.cst X G
  have T := c.bkT X G
  have TC := c.chT X G
  have TN := c.niT X G
  have L := c.lamT X G tb
  obtain ⟨fdB, MB⟩ := c.mkBk X G
  obtain ⟨fdP, GP⟩ := c.plain
  have ns : PySem.W.subIn K (.ref (niC K)) (.type "StopIteration") = some false := of_decide_eq_true (c.x 17)
  -- the program's predicates
  have isText := ok_isText (P := pw) (w := w) (base := base) B (c.fnA X G 0)
  have isId := ok_isId (P := pw) (w := w) (base := base) B C (c.fnA X G 1)
  have firstBad := ok_firstBad (P := pw) (w := w) (base := base) B (c.fnA X G 2)
  have isTupleOf := ok_isTupleOf (P := pw) (w := w) (base := base) B (c.fnA X G 3)
  have isTextOf := ok_isTextOf (P := pw) (w := w) (base := base) B (c.fnA X G 4) isText
  have isHead := ok_isHead (P := pw) (w := w) (base := base) C (c.fnA X G 5) isTupleOf isId
  have isContent := ok_isContent (P := pw) (w := w) (base := base) C (c.fnA X G 6) firstBad isTextOf
  obtain ⟨fdI, FI⟩ := c.fnP 7 (x := "is_item") (st := sIsItem)
  have FI' : Fun K "is_item" "is_item" sIsItem (ga K "is_item") fdI := He5.fun_of FI
  have isItem := ok_isItem_at (P := pw) (w := w) (mg := mg) (base := base) FI' isTupleOf isHead isContent
  have need := ok_need (P := pw) (w := w) (base := base) B C (c.fnA X G 8) FI' isItem
  have firstItems := ok_firstItems (P := pw) (w := w) (base := base) (c.fnA X G 9)
  have init := ok_init (P := pw) (w := w) (base := base) MB (c.glo X G 50) need firstItems
  -- readable
  obtain ⟨fdR, FR⟩ := c.fnP 11 (x := "readable") (st := sReadable)
  have readable := ok_readable (P := pw) (w := w) (base := base) B T TC TN ns FR
  have mR : mg "readable" = some (.ref (ga K "readable")) := c.glo X G 54
  -- the law's own
  have beg := ok_begin (P := pw) (w := w) (mg := mg) (base := base) (c.fnA X G 12)
  have mixed := ok_mixed (P := pw) (w := w) (base := base) B (c.fnA X G 13)
  have next := ok_next (P := pw) (w := w) (base := base) B (c.fnA X G 14) mixed
  have ids := ok_ids (P := pw) (w := w) (base := base) B (c.fnA X G 15) next
  have fault := ok_fault (P := pw) (w := w) (base := base) B (c.fnA X G 16) (c.flt X G)
  have first := ok_first (P := pw) (w := w) (base := base) B (c.fnA X G 18)
  have items := ok_items (P := pw) (w := w) (base := base) B (c.fnA X G 19) next ids
  have nextId := ok_nextId (P := pw) (w := w) (mg := mg) (base := base) (c.fnA X G 20) first
  have isChain := ok_isChain (P := pw) (w := w) (base := base) B (c.fnA X G 21) nextId
  have begun := ok_begun (P := pw) (w := w) (base := base) B (c.fnA X G 22) T TC
  have shown := ok_shown (P := pw) (w := w) (base := base) B (c.fnA X G 23) first
  have right := ok_right (P := pw) (w := w) (base := base) (fdR := fdR) (fC := ga K "chain") (fG := ma K (bkC K) "__getitem__") (fH := ma K (bkC K) "__contains__") (fN := niI K) B (c.fnA X G 24) next shown readable mR FR.kp
  obtain ⟨fdN, none_, bN⟩ := ok_none (P := pw) (w := w) (base := base) B T TC TN ns L next fault (c.glo X G 31) (exm_ok (c.d.fact 30 (f := .exm "NoItem" "BookError" true) rfl)) readable mR FR.kp
  exact ok_law B T TC MB init c.prop GP beg items isChain next begun right none_ bN L.mN L.kN FL
end HkK
/-! Fin -/
set_option maxHeartbeats 0
open PySem PySem.W PySem.Calls PyProof.Rows
theorem PySem.Challenge.cw_bookpack_k39_whole_chains_holds : PySem.Challenge.rw_bookpack_k39_whole_chains.Holds := by
  w_on; o_law
  refine HandSHeadRun.head_any (r := HkK.R) (q := HkK.qv) (H := HkK.hk HkK.nDeep) (ob := HkK.ob) (M := 6000) (loose := HkK.names) (d := HandSHeadRun.topDef HkK.R.prog 66) (kwd := []) HkK.ob_eq
    (by kernel_rfl) (fun s => by kernel_rfl) HkK.run (by kernel_rfl) (by kernel_rfl) (by kernel_rfl) (by rfl) (by first | assumption | decide +kernel) (by decide +kernel) ⟨rfl, rfl, rfl, rfl, rfl, by decide +kernel⟩ ?hw ?hc
  case hw => w_witness2
  case hc =>
    refine Att.attach_callB (l := PySem.Challenge.rw_bookpack_k39_whole_chains) (n := 63) rfl (by kernel_rfl) fun w s₀ s₁ mg mb fa o pm cd doc a vs ns G Y ho hd hcd hmg0 hobj hints hlen hbits hg => ?_
    obtain ⟨K, KX, c⟩ := Y
    have hmg : mg ("law" : PySem.Str) = some (.ref fa) := by
      have e : (HandSHeadRun.topDef HkK.R.prog 66).name = ("law" : PySem.Str) := by kernel_rfl
      rw [← e]
      exact hmg0
    obtain ⟨fdL, FL⟩ := c.fnP 26 (x := "law") (st := K39.sLaw)
    have FL' : L2.Fun K "law" "law" K39.sLaw (He.ga K "law") fdL := He5.fun_of FL
    have e2 := hmg.symm.trans (c.glo KX G.T.g 69)
    cases e2
    have tb0 : ∀ base : Heap, K.In base → base.Ns mainGlobals mg → LamX.TabB base mg (HkK.cNo K) (HkK.tNo K) → K39.FnG K39.pw w K mg base 13 (He.ga K "law") fdL ["_law_script"] (K39.spLaw K (HkK.tNo K)) := fun base _ _ tb => (HkK.facts c KX G.T.g tb FL').1
    obtain ⟨oc, od, kV, d2, p2, an, cdv, ct, osl, ef, _, _⟩ := FL'.ex
    refine HkK.law_end (P := K39.pw) (K := K) (k := 13) (c := HkK.cNo K) (t := HkK.tNo K) (fd := fdL) (x := "_law_script") (sp := K39.spLaw K (HkK.tNo K)) KX G.T.g G.T.b G.T.builtins G.T.nolimit hg c.emp c.out c.hd G.T.bmain hobj hints (Nat.le_trans hlen (by decide)) ⟨rfl, by decide, by decide⟩ tb0 (fun s u => BindsTo.of_eq (by rw [ef]; rfl)) fun H ht hS => ⟨a, ns, rfl, hS, hlen, ht, fun _ => rfl⟩
