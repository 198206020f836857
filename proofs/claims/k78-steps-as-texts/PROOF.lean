import PyProof.Rows.All
import Wide.All
import OpenK.AllK
import Wide.FinOn
import HandS.ForMost
import HandS.Exc
import HandS.ExcOwn
import HandS.TryOnly
import HandS.TryMany
import HandS.ExcCtx
import HandS.Hot
import HandS.HotCalls
import HandS.SuiteRaise
import HandS.RaiseFrom
import HandS.ExcInit
import HandS.ExcInitHot
import HandS.ExcField
import KE.GoesComp
import KE.GoesRaise
import PyProof.ReprNest
import PyProof.ReprReads
import KE.KFmtOwn
import HandS.OwnEq
import HandS.Defaults
import PyProof.NeKinds
import HandS.FStr
import PyProof.Rows.SetFrom
import HandS.Set
import HandS.SetKeys
import HandS.SetBool
import HandS.Strs
import KE.KStateDown
import HandS.IsInst
import HandS.Walk
import HandS.Lambda
import HandS.Small
import HandS.Star
import HandS.More
import HandS.WordsExc
import HandS.MakeKw
import HandS.Steps
import PySem.Challenge.RW_orderwide_k78_steps_as_texts
import HandS.Conv
import HandS.EndTab
import HandS.HeadWalk
import HandS.Head0
import HandS.Head1
import HandS.Head2
import HandS.HeadEnd
import HandS.HeadHook1
import HandS.HeadHook2
import HandS.HeadHook3
import HandS.HeadHook4
set_option Elab.async false
set_option linter.all false
set_option maxRecDepth 100000
set_option maxHeartbeats 0
/-! E1: exceptions whose context may be one more exception (family P); an own __init__ run whatever is handled. -/
namespace XP
open PySem PySem.Spec PyProof.Rows L2 HotX L2H
abbrev St := L2.St
/-- the class, the dict, the context's value -/
def Zq (cls : Value) (d : Option Addr) (c : Value) : Obj → Prop := fun o => o.cls = cls ∧ o.dict = d ∧ ∀ vs : Array Value, o.data = .fields vs → vs[2]? = some c
theorem ctx_steady {c : Value} : PXN.Steady1 (fun o : Obj => ∀ vs : Array Value, o.data = .fields vs → vs[2]? = some c) := fun o v h => by
  intro vs e
  obtain ⟨oc, od, dt, sl⟩ := o
  cases dt with
  | fields us =>
    have e2 : us.setIfInBounds 1 v = vs := by
      have q := Obj.data_mapFields (o := ⟨oc, od, .fields us, sl⟩) rfl (·.setIfInBounds 1 v)
      rw [q] at e
      injection e
    subst e2
    exact set_other (by decide) (h us rfl)
  | _ => exact h vs e
theorem Zq.steady {cls : Value} {d : Option Addr} {c : Value} : PXN.Steady1 (Zq cls d c) := fun o v h => ⟨PXN.steady_cls o v h.1, PXN.steady_dict o v h.2.1, ctx_steady o v h.2.2⟩
theorem Zq.zc {cls : Value} {d : Option Addr} {c : Value} {o : Obj} (h : Zq cls d c o) : Zc cls d o := ⟨h.1, h.2.1⟩
theorem Zq.of_zn {cls : Value} {d : Option Addr} {o : Obj} (h : L2N.Zn cls d o) : Zq cls d .none o := ⟨h.1, h.2.1, h.2.2⟩
/-- the context is None, or an exception whose own context is None, out of reach -/
def Past (B : Heap) (H : Hp) (c : Value) : Prop := c = .none ∨ ∃ (e0 : Addr) (o0 : Obj) (v0 : Array Value), c = .ref e0 ∧ B.get? e0 = some o0 ∧ H e0 = none ∧ o0.data = .fields v0 ∧ v0[2]? = some .none
def XEp (X : Cx) (W : WX) (u : Value) (s' : Shared) : Prop :=
  ∃ (a : Addr) (B : Heap) (sI : Shared) (pins : List (Addr × Obj)) (σ : St) (H : Hp) (cls : Value) (d : Option Addr) (c : Value),
    u = .ref a ∧ Inv X pins σ H sI ∧ (∀ b o, sI.heap.get? b = some o → b ∉ frs X.stack → B.get? b = some o) ∧ sI.heap.UpToSlots s'.heap ∧
      Sky B X.stack a (Zq cls d c) X.env.locals s'.heap ∧ H a = none ∧ s'.os = sI.os ∧ AllBare s'.gens ∧ Past B H c ∧ W cls d σ H
def Takes (X : Cx) (W : WX) : Prop := ∀ u s', XEp X W u s' → X.xe u s'
def CXp (P : Program) (w : World) (outer : List Env) (H : Hp) (s : Shared) (E : XK) (u : Value) (s' : Shared) : Prop :=
  ∃ (a : Addr) (B : Heap) (H' : Hp) (cls : Value) (d : Option Addr) (c : Value), u = .ref a ∧ HandSPX.FlyingZ B outer a (Zq cls d c) s'.heap ∧ HOk P w H' B ∧ UB (frs outer) H H' s.heap B s'.heap ∧ H' a = none ∧ s'.os = s.os ∧ AllBare s'.gens ∧ Past B H' c ∧ E cls d H'
/-! ### the families, one in another -/
theorem heldZ_imp {B h : Heap} {l : List Env} {a L : Addr} {Z Z' : Obj → Prop} (z : ∀ o, Z o → Z' o) (x : HandSPX.HeldZ B l a Z L h) : HandSPX.HeldZ B l a Z' L h := ⟨x.1, x.2.1, x.2.2.1, tracedZ_imp z x.2.2.2⟩
theorem sky_imp {B h : Heap} {l : List Env} {a L : Addr} {Z Z' : Obj → Prop} (z : ∀ o, Z o → Z' o) (x : Sky B l a Z L h) : Sky B l a Z' L h := by
  rcases x with ⟨hB, hn, hl, oe, vs, he, hz, hd, h1⟩ | x | x
  · exact .inl ⟨hB, hn, hl, oe, vs, he, z _ hz, hd, h1⟩
  · exact .inr (.inl (flyingZ_imp z x))
  · exact .inr (.inr (heldZ_imp z x))
theorem xe_n2 {X : Cx} {W : WX} {u : Value} {s' : Shared} (x : L2N.XE X W u s') : L2.XE X W u s' := by
  obtain ⟨a, B, sI, pins, σ, H, cls, d, e, I, nb, up, sky, na, os, ag, w⟩ := x
  exact ⟨a, B, sI, pins, σ, H, cls, d, e, I, nb, up, sky_imp (fun _ z => z.zc) sky, na, os, ag, w⟩
theorem xe_np {X : Cx} {W : WX} {u : Value} {s' : Shared} (x : L2N.XE X W u s') : XEp X W u s' := by
  obtain ⟨a, B, sI, pins, σ, H, cls, d, e, I, nb, up, sky, na, os, ag, w⟩ := x
  exact ⟨a, B, sI, pins, σ, H, cls, d, .none, e, I, nb, up, sky_imp (fun _ z => Zq.of_zn z) sky, na, os, ag, .inl rfl, w⟩
theorem xe_p2 {X : Cx} {W : WX} {u : Value} {s' : Shared} (x : XEp X W u s') : L2.XE X W u s' := by
  obtain ⟨a, B, sI, pins, σ, H, cls, d, c, e, I, nb, up, sky, na, os, ag, _, w⟩ := x
  exact ⟨a, B, sI, pins, σ, H, cls, d, e, I, nb, up, sky_imp (fun _ z => z.zc) sky, na, os, ag, w⟩
theorem cx_n2 {P : Program} {w : World} {outer : List Env} {H : Hp} {s : Shared} {E : XK} {u : Value} {s' : Shared} (x : L2N.CX P w outer H s E u s') : L2.CX P w outer H s E u s' := by
  obtain ⟨a, B, H', cls, d, e, fl, r⟩ := x
  exact ⟨a, B, H', cls, d, e, flyingZ_imp (fun _ z => z.zc) fl, r⟩
theorem cx_p2 {P : Program} {w : World} {outer : List Env} {H : Hp} {s : Shared} {E : XK} {u : Value} {s' : Shared} (x : CXp P w outer H s E u s') : L2.CX P w outer H s E u s' := by
  obtain ⟨a, B, H', cls, d, c, e, fl, h1, h2, h3, h4, h5, _, h6⟩ := x
  exact ⟨a, B, H', cls, d, e, flyingZ_imp (fun _ z => z.zc) fl, h1, h2, h3, h4, h5, h6⟩
theorem Takes.n {X : Cx} {W : WX} (t : Takes X W) : L2N.Takes X W := fun u s' x => t u s' (xe_np x)
theorem takes2_n {X : Cx} {W : WX} (t : L2.Takes X W) : L2N.Takes X W := fun u s' x => t u s' (xe_n2 x)
theorem takes2_p {X : Cx} {W : WX} (t : L2.Takes X W) : Takes X W := fun u s' x => t u s' (xe_p2 x)
theorem FnOk.cx {P : Program} {w : World} {K : PySem.W.Frag} {mg : Str → Option Value} {base : Heap} {C C' : CXT} {k : Nat} {f : Addr} {fd : FuncData} {ps : List Str} {sp : Sp} (F : FnOk P w K mg base C k f fd ps sp)
    (h : ∀ outer H s E u s', C outer H s E u s' → C' outer H s E u s') : FnOk P w K mg base C' k f fd ps sp :=
  ⟨F.len, fun A outer s H args us vs Q E hr e0 hb r hs => codeAny_mono (F.run A outer s H args us vs Q E hr e0 hb r hs) fun r s' q => by
    cases r with
    | error e => exact h _ _ _ _ _ _ q
    | ok fl => cases fl <;> exact q⟩
section
variable {X : Cx} {pins : List (Addr × Obj)} {σ : St} {H : Hp} {sI s s' : Shared} {B : Heap} {W : WX} {E : XK}
/-- a call's exception -/
theorem XEp.of_call (I : Inv X pins σ H s) (hW : ∀ cls d H', E cls d H' → W cls d σ H') {u : Value} (x : CXp X.prog X.w X.stack H s E u s') : XEp X W u s' := by
  obtain ⟨a, B, H', cls, d, c, rfl, fl, hok, ub, na, os, ag, pa, hE⟩ := x
  have old : L2.XE X (fun c2 d2 σ2 H2 => c2 = cls ∧ d2 = d ∧ H2 = H' ∧ σ2 = σ) (.ref a) s' := L2.XE.of_call (E := fun c2 d2 H2 => c2 = cls ∧ d2 = d ∧ H2 = H') I (fun _ _ _ h => ⟨h.1, h.2.1, h.2.2, rfl⟩)
    ⟨a, B, H', cls, d, rfl, flyingZ_imp (fun _ z => z.zc) fl, hok, ub, na, os, ag, rfl, rfl, rfl⟩
  obtain ⟨G, g1, g2⟩ := restrict s'.heap fun b => (B.get? b).isSome || decide (b ∈ frs X.stack)
  have st : B.StaysIn s'.heap := fl.1
  have gB : ∀ b o, B.get? b = some o → G.get? b = some o := fun b o e => (g1 b (by simp [e])).trans (st b o e)
  have gF : ∀ b, b ∈ frs X.stack → G.get? b = s'.heap.get? b := fun b hb => g1 b (by simp [hb])
  have og : ∀ b o, G.get? b = some o → s'.heap.get? b = some o ∧ ((B.get? b).isSome = true ∨ b ∈ frs X.stack) := fun b o e => by
    by_cases q : ((B.get? b).isSome || decide (b ∈ frs X.stack)) = true
    · rw [g1 b q] at e
      exact ⟨e, by simpa [Bool.or_eq_true] using q⟩
    · rw [g2 b (by simpa using q)] at e
      cases e
  have slotF : ∀ b o, s.heap.get? b = some o → b ∈ frs X.stack → ∃ sl, G.get? b = some { o with slots := sl } := fun b o e hb => by
    obtain ⟨sl, q⟩ := ub.slot b o e hb
    exact ⟨sl, (gF b hb).trans q⟩
  refine ⟨a, B, { s with heap := G, gens := s'.gens, drawn := s'.drawn, toks := s'.toks }, pins, σ, H', cls, d, c, rfl, ?_, fun b o e hb => ?_, Heap.UpToSlots.of_keeps fun b o e => (og b o e).1, .inr (.inl fl), na, os, ag, pa, hW _ _ _ hE⟩
  · refine I.call (ch := []) ⟨fun b o e n hb _ => gB b o (ub.keep b o e n hb), fun b o e _ hb _ => slotF b o e hb, fun b o e n _ => ub.free b o e n, fun b o e _ => ?_, ub.tups, ub.frzs, ub.tbls⟩ (hok.kept gB) ag (fun _ z => nomatch z)
    by_cases hb : b ∈ frs X.stack
    · obtain ⟨sl, q⟩ := slotF b o e hb
      exact ⟨_, q⟩
    · obtain ⟨o', q⟩ := ub.there b o e hb
      exact ⟨o', gB b o' q⟩
  · obtain ⟨e', h⟩ := og b o e
    rcases h with h | h
    · obtain ⟨o', q⟩ := Option.isSome_iff_exists.mp h
      rw [st b o' q] at e'
      rw [q, e']
    · exact absurd h hb
/-- a new one -/
theorem XEp.new {a : Addr} {oe : Obj} {vs : Array Value} {cls : Value} {d : Option Addr} {c : Value} (I : Inv X pins σ H sI) (k : ∀ b o, sI.heap.get? b = some o → s'.heap.get? b = some o) (hne : sI.heap.get? a = none) (he : s'.heap.get? a = some oe)
    (hz : Zq cls d c oe) (hd : oe.data = .fields vs) (h1 : vs[1]? = some .none) (na : H a = none) (os : s'.os = sI.os) (ag : AllBare s'.gens) (pa : Past (PySem.W.hideAll sI.heap (frs X.stack)) H c) (w : W cls d σ H) : XEp X W (.ref a) s' := by
  have hid : ∀ b o, (PySem.W.hideAll sI.heap (frs X.stack)).get? b = some o → sI.heap.get? b = some o := fun b o e => PySem.W.of_hideAll _ e
  refine ⟨a, PySem.W.hideAll sI.heap (frs X.stack), sI, pins, σ, H, cls, d, c, rfl, I, fun b o e hb => PySem.W.hideAll_get _ e hb, Heap.UpToSlots.of_keeps k,
    .inl ⟨fun b o e => k b o (hid b o e), ?_, ?_, oe, vs, he, hz, hd, h1⟩, na, os, ag, pa, w⟩
  · cases q : (PySem.W.hideAll sI.heap (frs X.stack)).get? a with
    | none => rfl
    | some o =>
      have z := hid a o q
      rw [hne] at z
      cases z
  · exact Heap.FunFrames.of_keeps (fun b o e _ => ⟨o, k b o e, rfl⟩) (funFrames_none I.stack fun b hb => PySem.W.hideAll_none _ hb)
/-- it leaves the def -/
theorem XEp.leave (hs : X.stack = X.env :: X.outer) (hf : X.env.frame = some X.env.locals) (hex : X.ex = []) {E₁ : Value → Shared → Prop} (hW : ∀ cls d σ H, W cls d σ H → E cls d H) {u : Value} (x : XEp X W u s') :
    wpAny (model X.prog X.w) X.A (leaving X.env u) (fun _ s'' => CXp X.prog X.w X.outer X.H_0 X.s_0 E u s'') E₁ s' := by
  obtain ⟨a, B, sI, pins, σ, H, cls, d, c, rfl, I, nb, up, sky, na, os, ag, pa, w⟩ := x
  have hfr : X.A.frames = some (X.env :: X.outer) := I.ok.frames.trans (congrArg some hs)
  have hex' : ∀ b, b ∉ X.ex := fun b hb => by rw [hex] at hb; cases hb
  have nst : ∀ b o, X.s_0.heap.get? b = some o → b ∉ X.fs → b ∉ frs X.stack := fun b o e hb hm => by
    rcases List.mem_cons.mp (I.stkSub b hm) with z | z
    · exact absurd (Nat.lt_of_lt_of_le (z ▸ Heap.lt_size e) I.ok.above) (Nat.lt_irrefl _)
    · exact hb z
  have fin : ∀ h', HandSPX.FlyingZ B X.outer a (Zq cls d c) h' → s'.heap.UpToSlots h' → CXp X.prog X.w X.outer X.H_0 X.s_0 E (.ref a) { s' with heap := h' } := fun h' fl up' => by
    refine ⟨a, B, H, cls, d, c, rfl, fl, I.inGround nb, ⟨fun b o e n hb => nb b o (I.base.keep b o e n hb (hex' b)) (nst b o e hb), fun b o e hb => ?_, fun b o e n => I.base.free b o e n (hex' b), fun b o e hb => ?_, I.base.tups, I.base.frzs, I.base.tbls⟩,
      na, os.trans I.os, ag, pa, hW _ _ _ _ w⟩
    · obtain ⟨_, o₀, e₀, hnf⟩ := I.ok.funs.mem hb
      rw [e] at e₀
      cases e₀
      obtain ⟨sl, e1⟩ := I.base.slot b o e (I.ok.frf b hb) hb (hex' b)
      obtain ⟨sl2, e2⟩ := up b _ e1 hnf
      obtain ⟨sl3, e3⟩ := up' b _ e2 hnf
      exact ⟨sl3, e3⟩
    · obtain ⟨o', e1⟩ := I.base.there b o e (hex' b)
      exact ⟨o', nb b o' e1 (nst b o e hb)⟩
  rw [hs] at sky
  rcases sky with ⟨hB, hn, hl, oe, vs, he, hz, hd, h1⟩ | fl | hd
  · exact PXN.leaving_firstZ Zq.steady hfr hl hf he hB hn hd h1 hz fin
  · exact PXN.leaves_onZ Zq.steady hfr hf fl fin
  · exact HandSPX.leaves_heldZ hf hd fin
theorem takes_of (hs : X.stack = X.env :: X.outer) (hf : X.env.frame = some X.env.locals) (hex : X.ex = []) {E₁ : Value → Shared → Prop}
    (hx : X.xe = fun e s' => wpAny (model X.prog X.w) X.A (leaving X.env e) (fun _ s'' => CXp X.prog X.w X.outer X.H_0 X.s_0 E e s'') E₁ s') : Takes X (fun cls d _ H => E cls d H) := fun u s' x => by
  rw [hx]
  exact XEp.leave (W := fun cls d _ H => E cls d H) (E := E) hs hf hex (fun _ _ _ _ h => h) x
theorem passAt {X : Cx} {W : WX} (tk : Takes X W) (σ : St) : PassesAt (CXp X.prog X.w) X σ (WE W σ) := fun _ _ _ e s' I c => tk e s' (XEp.of_call I (fun _ _ _ h => h) c)
end
/-- a suite's exceptions in the def's own air (no pins of the def) -/
theorem takes_suite {X : Cx} {W : WX} (hpn : X.pn = []) (ok : X.Ok) (t : Takes X W) (a : Addr) (pn : List (Addr × Obj)) : Takes (suiteX X a pn) W := fun u s' x => by
  obtain ⟨a2, B, sI, pins, σ, H, cls, d, c, e, I, nb, up, sky, na, os, ag, pa, w⟩ := x
  have I2 : Inv (suiteX X a ((a, default) :: (X.pn ++ []))) [] σ H sI → Inv X [] σ H sI := fun z => unsuiteX (pins := []) z ok
  refine t u s' ⟨a2, B, sI, [], σ, H, cls, d, c, e, ?_, nb, up, sky, na, os, ag, pa, w⟩
  exact ⟨ok, I.os, I.bare, I.base, I.loc, I.cell, I.free, I.freeC, fun p hp => absurd (show p ∈ X.pn ++ [] from hp) (by rw [hpn]; simp), I.hok, I.len⟩
end XP
/-! E2: an own __init__ of an exception, whatever is handled; making and raising such an exception. -/
namespace XP
open PySem PySem.Spec PyProof.Rows L2 HotX L2H
/-- a promise kept whatever is handled; nothing leaves it -/
structure FnA (P : Program) (w : World) (K : PySem.W.Frag) (mg : Str → Option Value) (base : Heap) (k : Nat) (f : Addr) (fd : FuncData) (ps : List Str) (sp : Sp) : Prop where
  len : ∀ vs H Q E, sp vs H Q E → vs.length = ps.length
  run : ∀ (A : Around) (outer : List Env) (s : Shared) (H : Hp) (args : Args) (us : List Value) (vs : List V) (Q : VK), RoomH k A → Env0 P w K mg base A outer s H → BindsTo s fd args (ps.zip us) → Vals vs us → sp vs H Q (fun _ _ _ => False) →
    codeAny (model P w) A (.call (.ref f) args) (CR (fun _ _ _ _ _ _ => False) outer P w H s Q (fun _ _ _ => False)) s
def cxA (P : Program) (w : World) (K : PySem.W.Frag) (mg : Str → Option Value) (base : Heap) (N : List Str) (qual : Str) (scope : Scope) (f : Addr) (cd : Value) (A : Around) (outer : List Env) (s : Shared) (H : Hp) : Cx :=
  { cxOf CX0 P w K mg base N qual scope f cd A outer s H E0 with calm := false, xe := fun _ _ => False }
theorem inv_any {P : Program} {w : World} {K : PySem.W.Frag} {mg : Str → Option Value} {base : Heap} {N : List Str} {qual : Str} {scope : Scope} {f : Addr} {cd : Value} {A A0 : Around} {outer : List Env} {s : Shared} {H : Hp} {σ : St} {s1 : Shared} (hfr : A0.frames = A.frames)
    (I : Inv (cxOf CX0 P w K mg base N qual scope f cd A0 outer s H E0) [] σ H s1) : Inv (cxA P w K mg base N qual scope f cd A outer s H) [] σ H s1 := by
  have ok := I.ok
  refine ⟨⟨ok.mod, ok.kind, ok.glob, ok.blt, ok.above, ok.inj, ok.has, ok.cab, fun z => Bool.noConfusion (show false = true from z), ?_, ok.stk, ok.exf, ok.bs, ok.bsz, ok.noex, ok.exfs, ok.funs, ok.frf⟩, I.os, I.bare, I.base, I.loc, I.cell, I.free, I.freeC, I.pin, I.hok, I.len⟩
  have h := ok.frames
  show (A.deeper (envOfC qual scope s.heap.objs.size f cd)).frames = some (envOfC qual scope s.heap.objs.size f cd :: outer)
  have h2 : (A0.deeper (envOfC qual scope s.heap.objs.size f cd)).frames = some (envOfC qual scope s.heap.objs.size f cd :: outer) := h
  have e1 : (A.deeper (envOfC qual scope s.heap.objs.size f cd)).frames = (A0.deeper (envOfC qual scope s.heap.objs.size f cd)).frames := by
    have z : ∀ (B : Around) (env : Env), (B.deeper env).frames = B.frames.map (env :: ·) := fun B env => by
      first | rfl | (cases h9 : B.frames <;> simp [Around.deeper, h9])
    rw [z, z, hfr]
  rw [e1]
  exact h2
theorem fn_any {P : Program} {w : World} {K : PySem.W.Frag} {mg : Str → Option Value} {base : Heap} {k : Nat} {f : Addr} {name qual : Str} {params : Arguments} {body : List Stmt} {scope : Scope} {dV kV doc pm cdv ct oc : Value} {an od : Option Addr}
    {osl : Array (Option Value)} {N ps : List Str} {sp : Sp} (lk : K.lookup f = some ⟨oc, od, .func (PySem.W.fnOf name qual params body scope dV kV doc pm an cdv ct), osl⟩) (hcd : PySem.W.codeIn K cdv qual = true) (S : FnScope N ps scope)
    (len : ∀ vs H Q E, sp vs H Q E → vs.length = ps.length)
    (hbody : ∀ (A : Around) (outer : List Env) (s : Shared) (H : Hp) (vs : List V) (Q : VK), RoomH k (A.deeper (envOfC qual scope s.heap.objs.size f cdv)) → sp vs H Q (fun _ _ _ => False) →
      ∃ t, PSs (cxA P w K mg base N qual scope f cdv A outer s H) body t ∧ t { nx := fun _ H' => Q .non H', rt := Q } (L2.start N vs) H) :
    FnA P w K mg base (k + 1) f (PySem.W.fnOf name qual params body scope dV kV doc pm an cdv ct) ps sp := by
  refine ⟨len, fun A outer s H args us vs Q hr e0 hb r hsp => ?_⟩
  have hl := len _ _ _ _ hsp
  have bsg : ∀ b o, base.get? b = some o → s.heap.get? b = some o := fun b o e => (e0.bs b o e).1
  have KX : K.In s.heap := e0.mod.kin.keeps bsg
  have lim : s.heap.NoLimit := e0.mod.nolimit.keeps bsg
  have hkind : ∀ y ∈ ps.zip us, scope.names.lookup y.1 = some .local ∨ (scope.names.lookup y.1 = some .cell ∧ ((cellsFrom (s.heap.objs.size + 1) scope.names []).lookup y.1).isSome = true) := fun ⟨n, v⟩ hy =>
    (S.par n (List.of_mem_zip hy).1).imp id fun q => ⟨q, PySem.W.cellsFrom_some _ _ _ (.inl q)⟩
  refine codeAny_call_function hr.depth (KX _ _ lk) rfl S.co S.gen rfl (PySem.W.codeRec_of KX hcd) (hb _ _ _ _ ?_)
  refine wpAny_newFunctionEnv_cells S.kind hkind fun env he s1 x => ?_
  subst he
  refine ⟨lim.keeps x.toInCall.keep, codeAny_func ?_⟩
  obtain ⟨t, ht, hq⟩ := hbody A outer s H vs Q (hr.deeper _) hsp
  have e1 : Env0 P w K mg base { A with handled := none } outer s H := ⟨e0.frames, e0.mod, e0.bs, e0.bsz, e0.funs, e0.frf, e0.hok, e0.bare⟩
  have I : Inv (cxA P w K mg base N qual scope f cdv A outer s H) [] (L2.start N vs) H s1 := inv_any (A0 := { A with handled := none }) rfl (inv_start (CX := CX0) (E := E0) S rfl e1 hl r x)
  refine wpAny_mono (ht.run [] s1 (L2.start N vs) H _ I hq) (fun fl s' hs => ?_) fun e s' hs => False.elim hs
  cases fl with
  | ret u =>
    obtain ⟨v, σ', H', J, rv, q⟩ := hs
    exact ⟨v, H', J.os, J.bare, J.base, J.hok, rv, q⟩
  | next =>
    obtain ⟨σ', H', J, q⟩ := hs
    exact ⟨V.non, H', J.os, J.bare, J.base, J.hok, rfl, q⟩
  | brk =>
    obtain ⟨_, _, _, q⟩ := hs
    exact False.elim q
  | cont =>
    obtain ⟨_, _, _, q⟩ := hs
    exact False.elim q

/-! ### C.__init__(self, ..) by the own base class's name -/
/-- the own class at B over ValueError: its __init__ is ValueError's -/
structure BInit (K : PySem.W.Frag) (B : Addr) : Prop where
  rd : PySem.W.readsIn K B (.type "type") = true
  ga : PySem.W.specialIn K (.ref B) "__getattribute__" = some (some (.builtin "type.__getattribute__"))
  met : PySem.W.findCls K (.ref B) (.type "type") "__init__" = some (.val (.builtin "ValueError.__init__"))
section
variable {X : Cx} {e : Expr} {es : List Expr} {ta : TA} {p p1 p2 pos : Pos} {x b : Str} {B C fI : Addr}
theorem pe_binit {pl : Sem Bool} (T : BInit X.K B) (hg : Gl X b) (hm : X.mg b = some (.ref B)) (ha : PA X (e :: es) ta) (hdb : (b == ("__debug__" : Str)) = false := by decide)
    (hc : eval (.Call (.Attribute (.Name b p1) "__init__" p2) (e :: es) [] pos) X.env = (do
      let ov ← eval (.Name b p1) X.env
      standAt p2.atName
      let (f, first) ← holding [ov] (getMethod ov "__init__" pl)
      callWith pos f first (backTo pos (starEach (e :: es) X.env)) (backToKw pos (keywordEach [] X.env))) := by rfl)
    (he : starEach (e :: es) X.env = (false, eval e X.env) :: starEach es X.env := by rfl) (hpl : (backTo pos (starEach es X.env)).any (·.1) = false := by rfl) :
    PE X (.Call (.Attribute (.Name b p1) "__init__" p2) (e :: es) [] pos) (tVeI X.K ta) := by
  refine ⟨fun pins s σ H Q I h => ?_⟩
  refine PySem.W.methodCall_KW (ld_glob I hg hm ?_ hdb) hc
  refine PySem.W.method_cls I.kIn T.ga (PySem.W.cls_value I.kIn T.rd T.met (by decide +kernel) ?_)
  show wpAny _ _ (callWith pos (Value.builtin "ValueError.__init__") [] (backTo pos (starEach (e :: es) X.env)) []) _ _ _
  refine PyProof.Rows.callWith_method1 (thn (ha.run pos pins _ σ H _ (I.tok _) h) fun us s1 ⟨vs, H1, I1, r1, a, C, ws, ev, hl, T, ea, q⟩ => ?_) he hpl
  subst ev
  cases r1 with
  | @cons _ u0 _ ur ra rw' =>
    obtain rfl : u0 = Value.ref a := ra
    have hlen : ur.length ≤ sizeLine := by rw [← Paired.length rw', sizeLine_eq]; omega
    exact oinit_ok T I1 ea hlen fun s' J => ⟨.non, H1, J, rfl, q⟩
/-- C(e, ..), C's own __init__ keeping sp whatever is handled -/
theorem pmk_any {k : Nat} {fd : FuncData} {ps : List Str} {sp : Sp} (T : OexC X.K C) (iC : PySem.W.findIn X.K (.ref C) "__init__" = some (some (.ref fI))) (tI : PySem.W.typeIn X.K (.ref fI) = some (.type "function"))
    (F1 : FnA X.prog X.w X.K X.mg X.base k fI fd ps sp) (hr : RoomH (k + 1) X.A) (hb : Binds X.K fd ps []) (hg : Gl X x) (hm : X.mg x = some (.ref C)) (ha : PA X (e :: es) ta)
    (hdb : (x == ("__debug__" : Str)) = false := by decide) (he : starEach (e :: es) X.env = (false, eval e X.env) :: starEach es X.env := by rfl) (hpl : (backTo pos (starEach es X.env)).any (·.1) = false := by rfl) :
    PMk5 X (.Call (.Name x p) (e :: es) [] pos) (tMkO C sp [] ta) := by
  intro pins s σ H Q I h
  obtain ⟨nm, q, N, bs, bm, sn, sub, ab, col, dd, k0, k1, k2, k3, k5, hC, hbm⟩ := T.cls
  refine wpAny_Call_Name_kw (ld_glob I hg hm ?_ hdb)
  refine PySem.W.callWith_K (h₀ := X.base) I.ok.mod.kin T.kC (thn (ha.run pos pins s σ H _ I h) fun us s1 ⟨vs, H1, I1, r1, hz, q1⟩ => ⟨I1.kIn, ?_⟩) he hpl
  show wpAny _ _ (call (.ref C) us) _ _ _
  obtain ⟨hp, g, dr, tk, os⟩ := s1
  have hsz : hp.objs.size ≤ hp.objs.size + 1 := Nat.le_succ _
  have hq := q1 (hp.objs.size + 1) (I1.hok.fresh hsz)
  rw [List.append_nil] at hq
  have kk : ∀ b o, hp.get? b = some o → ((hp.push (PySem.W.kdv_tup us)).push (PySem.HandSPX.excO C hp.objs.size)).get? b = some o := fun b o e => Heap.get?_push_of_some _ (Heap.get?_push_of_some _ e)
  have hget : ((hp.push (PySem.W.kdv_tup us)).push (PySem.HandSPX.excO C hp.objs.size)).get? (hp.objs.size + 1) = some (PySem.HandSPX.excO C hp.objs.size) := by heap_get
  have I2 := I1.laid (t' := tk) (a := hp.objs.size + 1) (o := exo (hp.objs.size + 1) C none) (h' := (hp.push (PySem.W.kdv_tup us)).push (PySem.HandSPX.excO C hp.objs.size)) kk hsz (exo_ok hget)
  have r2 : Vals (V.ref (hp.objs.size + 1) :: vs) (Value.ref (hp.objs.size + 1) :: us) := .cons rfl r1
  have hl : (Value.ref (hp.objs.size + 1) :: us ++ []).length = ps.length := by
    rw [List.append_nil, ← r2.length]
    exact F1.len _ _ _ _ hq
  have hus : us.length ≤ sizeLine := by rw [← Paired.length r1, sizeLine_eq]; omega
  have b2 := hb _ (Value.ref (hp.objs.size + 1) :: us) I2.kIn hl
  rw [List.append_nil] at b2
  refine wpAny_call (PySem.HandSPX.call_own F.excBase_ValueError (fun Y => PySem.HandSPX.refsVE_contains Y bm hbm) (I1.kIn _ _ hC) (PySem.W.looks_findIn I1.kIn iC) (fun self => PySem.W.bind_fn I1.kIn self tI) hus
    (codeAny_mono (F1.run _ X.stack _ _ ⟨Value.ref (hp.objs.size + 1) :: us, []⟩ (Value.ref (hp.objs.size + 1) :: us) _ _ (hr.make C us []) (I2.env0.make C us []) b2 r2 hq) fun r s' hq' => ?_))
  cases r with
  | error er => exact False.elim hq'
  | ok fl =>
    cases fl with
    | ret u =>
      obtain ⟨v, H2, os2, bare2, un2, hok2, rv, ev, d, fs, ea, ed, hd1, q2⟩ := hq'
      subst ev
      obtain ⟨h2, g2, d2, t2, os'⟩ := s'
      obtain ⟨t0, G, J, kG, ge, hoe, na⟩ := mk_end0 (d2 := d2) (t2 := t2) I1 hsz kk un2 hok2 os2 bare2 ea ed hd1
      refine ⟨rv, ⟨hp.objs.size + 1, _, _, ⟨G, g2, d2, t2, os'⟩, _, .ref C, some d, rfl, J, kG, ge, hoe, ⟨rfl, rfl, fun vs hv => ?_⟩, rfl, rfl, na, rfl, bare2, raises_own T.exC T.tyC, q2⟩, fun a oe vs ea2 hg2 hd2 => ?_⟩
      · cases hv
        rfl
      · cases ea2
        have hg3 := hoe.symm.trans hg2
        cases hg3
        cases hd2
        show (4 : Nat) < 6
        decide
    | next => exact False.elim hq'
    | brk => exact False.elim hq'
    | cont => exact False.elim hq'
theorem roomH_of' {k : Nat} {A : Around} (r : Room k A) : RoomH k A := ⟨r.dp, r.un⟩
end
end XP
/-! E3: raise .. from None in a suite, the handled exception's context being None or an exception whose context is None. -/
namespace XP
open PySem PySem.Spec PyProof.Rows L2 HotX L2H
/-- the handled exception and its context -/
def Hot2 (A : Around) (x1 : Addr) (h : Heap) (a : Addr) : Prop := A.handled = some (.ref x1) ∧ x1 ≠ a ∧ ∃ (o : Obj) (vs : Array Value) (c : Value), h.get? x1 = some o ∧ o.data = .fields vs ∧ vs[2]? = some c ∧
  (c = .none ∨ ∃ (x0 : Addr) (o0 : Obj) (v0 : Array Value), c = .ref x0 ∧ x0 ≠ x1 ∧ x0 ≠ a ∧ h.get? x0 = some o0 ∧ o0.data = .fields v0 ∧ v0[2]? = some .none)
section
variable {prog : Program} {w : World} {A : Around} {E : Value → Shared → Prop} {s : Shared}
theorem unchained2 {x1 a : Addr} {Q : Value → Shared → Prop} (hot : Hot2 A x1 s.heap a) (q : Q .none s) :
    wpAny (model prog w) A (holding [Value.ref a] (runValue (.builtin "proto.unchain" ⟨[.ref a, .ref x1, .ref x1, .bool false], []⟩))) Q E s := by
  obtain ⟨_, _, o, vs, c, h1, d1, c1, hc⟩ := hot
  rcases hc with rfl | ⟨x0, o0, v0, rfl, n1, n2, h0, d0, c0⟩
  · exact unchained h1 d1 c1 q
  · refine wpAny_holding (wpAny_runValue (codeAny_builtin HotX.entry_unchain ?_))
    show wpAny _ _ (field (.ref x1) 2 >>= _) _ _ s
    refine wpAny_bind (wpAny_field h1 d1 c1 ?_)
    have e1 : (Value.ref x0 == Value.none) = false := rfl
    have e2 : (Value.ref x0 == Value.ref a) = false := by simpa using n2
    have e3 : (Value.ref x0 == Value.ref x1) = false := by simpa using n1
    simp only [e1, e2, e3, Bool.false_eq_true, if_false]
    first
    | refine wpAny_bind (wpAny_pure (wpAny_bind (wpAny_pure (wpAny_bind (wpAny_pure (wpAny_pure ?_))))))
    | refine wpAny_bind (wpAny_pure (wpAny_pure ?_))
    | refine wpAny_pure ?_
    refine ⟨plainId_quiet (by decide +kernel) _, codeAny_builtin HotX.entry_unchain ?_⟩
    show wpAny _ _ (field (.ref x0) 2 >>= _) _ _ s
    refine wpAny_bind (wpAny_field h0 d0 c0 ?_)
    rw [if_pos (show (Value.none == Value.none) = true from rfl)]
    first
      | exact wpAny_bind (wpAny_pure (wpAny_pure q))
      | exact wpAny_pure q
theorem raiseNew2 {α : Type} {a x1 : Addr} {oe : Obj} {vs : Array Value} {Q : α → Shared → Prop} (hot : Hot2 A x1 s.heap a) (ha : s.heap.get? a = some oe) (da : oe.data = .fields vs) (hi : 2 < vs.size)
    (hE : E (.ref a) { s with heap := s.heap.update a (Obj.mapFields (·.setIfInBounds 2 (.ref x1))) }) : wpAny (model prog w) A (raiseNew (.ref a) : Sem α) Q E s := by
  obtain ⟨hh, hne, _⟩ := id hot
  unfold raiseNew
  refine wpAny_bind (wpAny_handled ?_)
  rw [hh]
  have hb : (Value.ref x1 != Value.ref a) = true := ref_bne hne
  first
  | (show wpAny _ _ (if (Value.ref x1 != Value.ref a) = true then _ else _) _ _ _
     rw [if_pos hb]
     first
     | exact wpAny_bind (unchained2 hot (wpAny_bind (chained ha da hi (wpAny_throw hE))))
     | exact wpAny_bind (wpAny_bind (unchained2 hot (chained ha da hi (wpAny_throw hE)))))
  | (refine wpAny_bind ?_
     show wpAny _ _ (if (Value.ref x1 != Value.ref a) = true then _ else _) _ _ _
     rw [if_pos hb]
     exact wpAny_bind (unchained2 hot (chained ha da hi (wpAny_throw hE))))
theorem raise_none2 {env : Env} {x c : Sem Value} {Q : Flow → Shared → Prop}
    (hcs : ∀ (s : Shared) (Q' : Value → Shared → Prop), Q' .none s → wpAny (model prog w) A c Q' E s)
    (h : wpAny (model prog w) A x (fun v s₁ => ∃ a oe vs cls x1, v = .ref a ∧ s₁.heap.get? a = some oe ∧ oe.cls = cls ∧ oe.data = .fields vs ∧ vs[1]? = some .none ∧ 4 < vs.size ∧ Hot2 A x1 s₁.heap a ∧
      PySem.W.Looks (model prog w) s₁.heap (isSubtype cls (.type "BaseException")) true ∧ PySem.W.Looks (model prog w) (noneFrom s₁.heap a) (typeOf cls) (.type "type") ∧
      E (.ref a) { s₁ with heap := (noneFrom s₁.heap a).update a (Obj.mapFields (·.setIfInBounds 2 (.ref x1))) }) E s) :
    wpAny (model prog w) A (raiseStmt env (some x) (some c)) Q E s := by
  unfold raiseStmt
  dsimp only
  refine wpAny_bind (wpAny_mono h (fun v s₁ h₁ => ?_) fun _ _ x => x)
  obtain ⟨a, oe, vs, cls, x1, rfl, ha, hcls, hd, h1, hi, hot, L1, L3, hE⟩ := h₁
  have LT : PySem.W.Looks (model prog w) s₁.heap (typeOf (.ref a)) cls := fun A Q E s k q => wpAny_typeOf_ref (k _ _ ha) (by rw [hcls]; exact q)
  have notT : ∀ {h' : Heap} {o : Obj} {us : Array Value}, h'.get? a = some o → o.data = .fields us → ∀ {Q' : Bool → Shared → Prop}, Q' false { s₁ with heap := h' } → wpAny (model prog w) A (isType (.ref a)) Q' E { s₁ with heap := h' } := by
    intro h' o us ho du Q' hq
    simp only [isType, loadHead]
    refine wpAny_bind (wpAny_loadPart (s := { s₁ with heap := h' }) ho ?_)
    rw [du]
    exact wpAny_pure hq
  have hd3 := Obj.data_mapFields hd (·.setIfInBounds 3 .none)
  have ha3 := Heap.get?_update_self (Obj.mapFields (·.setIfInBounds 3 .none)) ha (Obj.isFreed_of_fields hd3)
  obtain ⟨ha4, hd4⟩ := noneFrom_at ha hd
  have s3 : 3 < vs.size := by omega
  have s4 : 4 < (vs.setIfInBounds 3 Value.none).size := by rw [set_size]; exact hi
  have s2 : 2 < ((vs.setIfInBounds 3 Value.none).setIfInBounds 4 (Value.bool true)).size := by rw [set_size, set_size]; omega
  have h14 : ((vs.setIfInBounds 3 Value.none).setIfInBounds 4 (Value.bool true))[1]? = some Value.none := set_other (by decide) (set_other (by decide) h1)
  have LT4 : PySem.W.Looks (model prog w) (noneFrom s₁.heap a) (typeOf (.ref a)) cls := fun A Q E s k q => wpAny_typeOf_ref (k _ _ ha4) (by rw [Obj.cls_mapFields, Obj.cls_mapFields, hcls]; exact q)
  have hot4 : Hot2 A x1 (noneFrom s₁.heap a) a := by
    obtain ⟨q1, q2, o, us, c', g1, g2, g3, g4⟩ := hot
    refine ⟨q1, q2, o, us, c', (noneFrom_other (Ne.symm q2)).trans g1, g2, g3, g4.imp id fun ⟨x0, o0, v0, r1, r2, r3, r4, r5, r6⟩ => ⟨x0, o0, v0, r1, r2, r3, (noneFrom_other (Ne.symm r3)).trans r4, r5, r6⟩⟩
  have rest : wpAny (model prog w) A (do
      let b ← isType (.ref a)
      if b = true then do
        let e ← holding [.ref a] (raisedFor (.ref a) (.ref a))
        setFlight e none
        raiseNew e
      else do
        let e ← raisedInstance (.ref a)
        setFlight e none
        raiseNew e : Sem Flow) Q E { s₁ with heap := noneFrom s₁.heap a } := by
    refine wpAny_bind (notT ha4 hd4 ?_)
    simp only [Bool.false_eq_true, if_false]
    unfold raisedInstance
    refine wpAny_bind (wpAny_bind (LT4.here (wpAny_bind (L3.here ?_))))
    rw [if_pos (beq_self_eq_true _)]
    refine wpAny_pure ?_
    unfold setFlight
    refine wpAny_bind (wpAny_bind (wpAny_field ha4 hd4 h14 ?_))
    rw [if_neg (by decide)]
    refine wpAny_pure ?_
    exact raiseNew2 hot4 ha4 hd4 s2 hE
  refine wpAny_bind (wpAny_holding (hcs _ _ (wpAny_bind (wpAny_pure ?_))))
  dsimp only
  refine wpAny_bind (wpAny_holding ?_)
  unfold excFromValue isExcClass
  refine wpAny_bind (wpAny_bind (notT ha hd ?_))
  simp only [Bool.false_eq_true, if_false]
  refine wpAny_pure ?_
  simp only [Bool.false_eq_true, if_false]
  refine wpAny_bind ((LT.andThen L1 : PySem.W.Looks (model prog w) s₁.heap (isInstance (.ref a) (.type "BaseException")) true).here ?_)
  simp only [if_true]
  refine wpAny_pure ?_
  first
  | rw [if_pos (show (Value.none == Value.none) = true from rfl)]
  | simp only [beq_self_eq_true, if_true]
  first
  | refine wpAny_bind (wpAny_pure (wpAny_bind (wpAny_setField ha hd s3 (wpAny_bind (wpAny_setField ha3 hd3 s4 ?_)))))
  | refine wpAny_bind (wpAny_pure (wpAny_bind (wpAny_bind (wpAny_setField ha hd s3 (wpAny_bind (wpAny_setField ha3 hd3 s4 ?_))))))
  | refine wpAny_bind (wpAny_bind (wpAny_pure (wpAny_bind (wpAny_setField ha hd s3 (wpAny_setField ha3 hd3 s4 ?_)))))
  first
  | exact rest
  | (dsimp only; exact rest)
  | (refine wpAny_pure ?_; exact rest)
end
/-- the context bears the handled exception, and what that one's context is -/
def HotC2 (X : Cx) : Prop := ∃ (p : Addr × Obj) (v1 : Array Value) (c : Value), X.A.handled = some (.ref p.1) ∧ p ∈ X.pn ∧ p.2.data = .fields v1 ∧ v1[2]? = some c ∧
  (c = .none ∨ ∃ (q : Addr × Obj) (v0 : Array Value), c = .ref q.1 ∧ q.1 ≠ p.1 ∧ q ∈ X.pn ∧ q.2.data = .fields v0 ∧ v0[2]? = some .none)
theorem HotC2.of1 {X : Cx} (h : HotC X) : HotC2 X := by
  obtain ⟨p, ⟨hh, v1, e1, c1⟩, hp⟩ := h
  exact ⟨p, v1, .none, hh, hp, e1, c1, .inl rfl⟩
/-- raise C(..) from None in a suite: what the exception is to be, with what it bears of the past -/
theorem raise_from {X : Cx} {e : Expr} {t : St → Hp → XK → Prop} {j : Nat} {cpos pos : Pos} (hc : HotC2 X) (he : PMk5 X e t) {pins : List (Addr × Obj)} {s : Shared} {σ : St} {H : Hp} {Q : XK} {D : Flow → Shared → Prop} (I : Inv X pins σ H s) (h : t σ H Q)
    (fin : ∀ (a : Addr) (oe : Obj) (vs : Array Value) (sI s' : Shared) (H' : Hp) (cls : Value) (d : Option Addr) (x1 : Addr), X.A.handled = some (.ref x1) → Inv X pins σ H' sI → (∀ b o, sI.heap.get? b = some o → s'.heap.get? b = some o) → sI.heap.get? a = none → s'.heap.get? a = some oe →
      Zq cls d (.ref x1) oe → oe.data = .fields vs → vs[1]? = some .none → H' a = none → s'.os = sI.os → AllBare s'.gens → Q cls d H' → X.xe (.ref a) s') :
    wpAny (model X.prog X.w) X.A (exec (.Raise (some e) (some (.Constant .none j cpos)) pos) X.env) D X.xe s := by
  obtain ⟨p, v1, c, hh, hp, e1, c1, hpast⟩ := hc
  show wpAny _ _ (do standAt pos; raiseStmt X.env (some (do let v ← eval e X.env; standAt pos; pure v)) (some (do let v ← eval (.Constant .none j cpos) X.env; standAt pos; pure v))) _ _ _
  refine wpAny_bind (wpAny_standAt (raise_none2 (fun s2 Q2 q2 => wpAny_bind (Constant_none (wpAny_bind (wpAny_standAt (wpAny_pure q2))))) (wpAny_bind (wpAny_mono (he pins s σ H Q I h) (fun u s1 hu => wpAny_bind (wpAny_standAt (wpAny_pure ?_))) fun _ _ x => x))))
  obtain ⟨⟨a, oe, vs, sI, H', cls, d, rfl, J, k, hne, ha, hz, hd, h1, na, os, ag, r, q⟩, h5⟩ := hu
  have hi : 4 < vs.size := h5 a oe vs rfl ha hd
  have nab : ∀ {b : Addr} {u : Obj}, sI.heap.get? b = some u → a ≠ b := fun {b u} z y => by rw [← y, hne] at z; cases z
  have k4 : ∀ b u, sI.heap.get? b = some u → (noneFrom s1.heap a).get? b = some u := fun b u z => (noneFrom_other (nab z)).trans (k b u z)
  obtain ⟨r1, _⟩ := r (model X.prog X.w) s1.heap (J.kIn.keeps k)
  obtain ⟨_, r2⟩ := r (model X.prog X.w) (noneFrom s1.heap a) (J.kIn.keeps k4)
  have P1 := (J.pin p (List.mem_append_left _ hp)).1
  obtain ⟨ha4, hd4⟩ := noneFrom_at ha hd
  have s2 : 2 < ((vs.setIfInBounds 3 Value.none).setIfInBounds 4 (Value.bool true)).size := by rw [set_size, set_size]; omega
  have h12 : (((vs.setIfInBounds 3 Value.none).setIfInBounds 4 (Value.bool true)).setIfInBounds 2 (Value.ref p.1))[1]? = some Value.none := set_other (by decide) (set_other (by decide) (set_other (by decide) h1))
  have h22 : (((vs.setIfInBounds 3 Value.none).setIfInBounds 4 (Value.bool true)).setIfInBounds 2 (Value.ref p.1))[2]? = some (Value.ref p.1) := Array.getElem?_setIfInBounds_self_of_lt s2
  have hd5 := Obj.data_mapFields hd4 (·.setIfInBounds 2 (.ref p.1))
  refine ⟨a, oe, vs, cls, p.1, rfl, ha, hz.1, hd, h1, hi, ⟨hh, Ne.symm (nab P1), p.2, v1, c, k _ _ P1, e1, c1, hpast.imp id fun ⟨q0, v0, g1, g2, g3, g4, g5⟩ => ?_⟩, r1, r2, ?_⟩
  · refine fin a _ _ sI { s1 with heap := (noneFrom s1.heap a).update a (Obj.mapFields (·.setIfInBounds 2 (.ref p.1))) } H' cls d p.1 hh J (fun b u z => ?_) hne (Heap.get?_update_self _ ha4 (Obj.isFreed_of_fields hd5))
      ⟨by rw [Obj.cls_mapFields, Obj.cls_mapFields, Obj.cls_mapFields]; exact hz.1, by rw [HandSPX.dict_mapFields, HandSPX.dict_mapFields, HandSPX.dict_mapFields]; exact hz.2.1, fun us eu => ?_⟩ hd5 h12 na os ag q
    · rw [show ({ s1 with heap := (noneFrom s1.heap a).update a (Obj.mapFields (·.setIfInBounds 2 (.ref p.1))) } : Shared).heap.get? b = (noneFrom s1.heap a).get? b from Heap.get?_update_other _ _ (nab z)]
      exact k4 b u z
    · rw [hd5] at eu
      injection eu with eu
      rw [← eu]
      exact h22
  · have P0 := (J.pin q0 (List.mem_append_left _ g3)).1
    exact ⟨q0.1, q0.2, v0, g1, g2, Ne.symm (nab P0), k _ _ P0, g4, g5⟩
/-- .. into family P, where the handled one's context is None -/
theorem ps_raiseP {X : Cx} {W : WX} {e : Expr} {t : St → Hp → XK → Prop} {j : Nat} {cpos pos : Pos} (hc : HotC X) (tk : Takes X W) (he : PMk5 X e t) :
    PS X (.Raise (some e) (some (.Constant .none j cpos)) pos) (fun _ σ H => t σ H fun cls d H' => W cls d σ H') := by
  refine ⟨fun pins s σ H D I h => raise_from (HotC2.of1 hc) he I h fun a oe vs sI s' H' cls d x1 hx J k hne ha hz hd h1 na os ag q => ?_⟩
  obtain ⟨p, ⟨hh, v1, e1, c1⟩, hp⟩ := hc
  obtain rfl : p.1 = x1 := by rw [hh] at hx; injection hx with hx; injection hx
  have P := J.pin p (List.mem_append_left _ hp)
  have nst : p.1 ∉ frs X.stack := fun hm => (List.mem_cons.mp (J.stkSub p.1 hm)).elim P.2.2.1 P.2.2.2.1
  exact tk _ _ (XEp.new J k hne ha hz hd h1 na os ag (.inr ⟨p.1, p.2, v1, rfl, PySem.W.hideAll_get _ P.1 nst, P.2.1, e1, c1⟩) q)
/-- .. into the widest family -/
theorem ps_raise2 {X : Cx} {W : WX} {e : Expr} {t : St → Hp → XK → Prop} {j : Nat} {cpos pos : Pos} (hc : HotC2 X) (tk : L2.Takes X W) (he : PMk5 X e t) :
    PS X (.Raise (some e) (some (.Constant .none j cpos)) pos) (fun _ σ H => t σ H fun cls d H' => W cls d σ H') :=
  ⟨fun pins s σ H D I h => raise_from hc he I h fun a oe vs sI s' H' cls d x1 hx J k hne ha hz hd h1 na os ag q => tk _ _ (L2.XE.new J k hne ha hz.zc hd h1 na os ag q)⟩
end XP
/-! E4: tries. -/
namespace XP
open PySem PySem.Spec PyProof.Rows L2 HotX L2H
theorem okPn {X Y : Cx} (o : X.Ok) (h : Y = { X with pn := Y.pn }) : Y.Ok := by
  rw [h]
  exact ⟨o.mod, o.kind, o.glob, o.blt, o.above, o.inj, o.has, o.cab, o.hd, o.frames, o.stk, o.exf, o.bs, o.bsz, o.noex, o.exfs, o.funs, o.frf⟩
/-- other pins -/
theorem rePin {X : Cx} {pn pins pins' : List (Addr × Obj)} {σ : St} {H : Hp} {s : Shared} (I : Inv X pins σ H s) (hp : ∀ p ∈ pn ++ pins', s.heap.get? p.1 = some p.2 ∧ H p.1 = none ∧ p.1 ≠ X.env.locals ∧ p.1 ∉ X.fs ∧ ∀ v, p.2.data ≠ .cell v) :
    Inv { X with pn := pn } pins' σ H s :=
  ⟨okPn I.ok rfl, I.os, I.bare, I.base, I.loc, I.cell, I.free, I.freeC, hp, I.hok, I.len⟩
theorem toDef {X : Cx} {a : Addr} {pn pins pins' : List (Addr × Obj)} {σ : St} {H : Hp} {s : Shared} (I : Inv (suiteX X a pn) pins' σ H s) (ok : X.Ok) (hs : ∀ p ∈ X.pn ++ pins, p ∈ pn) : Inv X pins σ H s :=
  ⟨ok, I.os, I.bare, I.base, I.loc, I.cell, I.free, I.freeC, fun p hp => I.pin p (List.mem_append_left _ (hs p hp)), I.hok, I.len⟩
/-- the one clause names it -/
def wGet (K : PySem.W.Frag) (c : Value) (ts : Addr → Value → Option Addr → TS) (D : Ends) : WX := fun cls d σ H => PySem.W.exmOne K cls c = some true ∧ ∀ a, H a = none → ts a cls d D σ H
section
variable {X : Cx} {x : Str} {c : Value} {body suite : List Stmt} {b₀ : Stmt} {np pos pos' : Pos} {tb : WX → TS} {ts : Addr → Value → Option Addr → TS} {Wout : WX}
theorem ps_tryP (hs : X.stack = X.env :: X.outer) (hf : X.env.frame = some X.env.locals) (hc : Names X x c) (hpa : ∀ hd : Option Value, PassesOwnAt (model X.prog X.w) (X.A.mark hd) X.A X.env X.xe) (tk : L2.Takes X Wout)
    (hb : ∀ (W : WX) (pn : List (Addr × Obj)) (xe : Value → Shared → Prop), Takes (X.tr pn xe) W → PSs (X.tr pn xe) body (tb W))
    (hsu : ∀ (a : Addr) (cls : Value) (d : Option Addr) (pn : List (Addr × Obj)), L2.Takes (suiteX X a pn) Wout → HotC2 (suiteX X a pn) → PSs (suiteX X a pn) (b₀ :: suite) (ts a cls d)) :
    PS X (.Try body [.ExceptHandler (some (.Name x np)) none (b₀ :: suite) pos'] [] [] pos) (fun D σ H => tb (wGet X.K c ts D) D σ H) := by
  refine ⟨fun pins s σ H D I h => ?_⟩
  have ok := I.ok
  have hfr : X.A.frames = some (X.env :: X.outer) := ok.frames.trans (congrArg some hs)
  have notFr : ∀ {B h : Heap} {a : Addr} {o : Obj} {vs : Array Value}, h.FunFrames B (X.env :: X.outer) → h.get? a = some o → o.data = .fields vs → a ∉ frs (X.env :: X.outer) := fun {B h a o vs} ff e dd hm => by
    obtain ⟨_, o', e', hnf⟩ := ff.mem hm
    rw [e] at e'
    cases e'
    exact hnf _ dd
  have offL : ∀ {a : Addr}, a ∉ frs (X.env :: X.outer) → a ≠ X.env.locals ∧ a ∉ X.fs := fun {a} n => by
    refine ⟨fun z => n (List.mem_filterMap.mpr ⟨X.env, List.mem_cons_self, by rw [hf, z]⟩), fun hm => ?_⟩
    obtain ⟨e, he, q⟩ := List.mem_filterMap.mp hm
    exact n (List.mem_filterMap.mpr ⟨e, List.mem_cons_of_mem _ he, q⟩)
  refine wpAny_Try_except ?_
  refine wpAny_mono ((hb (wGet X.K c ts D) (X.pn ++ pins) (fun e s₁ => wpAny (model X.prog X.w) X.A (noteFrame e X.env) (fun _ s₂ => wpAny (model X.prog X.w) X.A (setFlight e none) (fun _ s₃ =>
    wpAny (model X.prog X.w) X.A (handleBy e X.env [.ExceptHandler (some (.Name x np)) none (b₀ :: suite) pos']) (SP X pins D) X.xe s₃) X.xe s₂) X.xe s₁) (fun u s' xx => ?_)).run [] s σ H D (I.toTry _) h) (fun f s1 hsp => ?_) (fun e s1 he => he)
  · obtain ⟨a, B, sI, pins', σ', H', cls, d, cv, rfl, J', nb, up, sky, na, os, ag, past, hb1, hyes⟩ := xx
    have J : Inv X pins σ' H' sI := J'.ofTry ok
    rw [show (X.tr (X.pn ++ pins) _).stack = X.env :: X.outer from hs] at sky
    show wpAny (model X.prog X.w) X.A (noteFrame (.ref a) X.env) _ _ _
    refine L2N.Sky.land Zq.steady hfr hf sky fun h3 fl3 up3 => ?_
    have J3 : Inv X pins σ' H' { s' with heap := h3 } := J.landed nb fl3.1 (up.trans up3) os ag
    obtain ⟨oe3, vs3, he3, hz3, hd3⟩ := fl3.there
    obtain ⟨nL, nF⟩ := offL (notFr fl3.2.2.1 he3 hd3)
    have S3 := J3.suite he3 hd3 na nL nF
    refine wpAny_handleBy_cons (codeAny_handlers_test ?_) (by intro q; cases q)
    have LT : PySem.W.Looks (model X.prog X.w) h3 (typeOf (.ref a)) cls := fun A Q E s k q => wpAny_typeOf_ref (k _ _ he3) (by rw [hz3.1]; exact q)
    have LM := PySem.W.exm_one (M := model X.prog X.w) (J3.kIn) LT hb1
    have test : ∀ {Q : Value → Shared → Prop} {E : Value → Shared → Prop}, Q c { s' with heap := h3 } → wpAny (model X.prog X.w) (X.A.mark (some (.ref a))) (eval (.Name x np) X.env) Q E { s' with heap := h3 } := fun {Q E} q => by
      obtain ⟨hg, hdbg, hm | ⟨hm, hv, hnn⟩⟩ := hc
      · exact ld_glob (X := X.suite a ((a, oe3) :: (X.pn ++ pins))) S3 hg hm q hdbg
      · exact ld_blt (X := X.suite a ((a, oe3) :: (X.pn ++ pins))) S3 hg hm hv q hnn hdbg
    refine test (LM.here ?_)
    refine codeAny_handlers_suite ?_
    refine HandSPX.lands_againZ fl3 fun h4 fl4 up4 => ?_
    have J4 : Inv X pins σ' H' { s' with heap := h4 } := J.landed nb fl4.1 ((up.trans up3).trans up4) os ag
    obtain ⟨oe4, vs4, he4, hz4, hd4⟩ := fl4.there
    have S4 := suiteX_of (J4.suite he4 hd4 na nL nF)
    have eB : B.get? a = none := fl4.2.1
    -- the pins of the past
    obtain ⟨more, hmore, hot⟩ : ∃ more : List (Addr × Obj), (∀ p ∈ more, h4.get? p.1 = some p.2 ∧ H' p.1 = none ∧ p.1 ≠ X.env.locals ∧ p.1 ∉ X.fs ∧ ∀ v, p.2.data ≠ .cell v) ∧ HotC2 (suiteX X a ((a, oe4) :: (more ++ (X.pn ++ pins)))) := by
      rcases past with rfl | ⟨e0, o0, v0, rfl, g1, g2, g3, g4⟩
      · exact ⟨[], fun p hp => absurd hp List.not_mem_nil, ⟨(a, oe4), vs4, Value.none, rfl, List.mem_cons_self, hd4, hz4.2.2 vs4 hd4, Or.inl rfl⟩⟩
      · have n0 : e0 ≠ a := fun z => by rw [z, eB] at g1; cases g1
        obtain ⟨m1, m2⟩ := offL (notFr fl4.2.2.1 (fl4.1 _ _ g1) g3)
        refine ⟨[(e0, o0)], fun p hp => ?_, ⟨(a, oe4), vs4, Value.ref e0, rfl, List.mem_cons_self, hd4, hz4.2.2 vs4 hd4, Or.inr ⟨(e0, o0), v0, rfl, n0, by simp, g3, g4⟩⟩⟩
        obtain rfl : p = (e0, o0) := by simpa using hp
        exact ⟨fl4.1 _ _ g1, g2, m1, m2, fun v z => by rw [g3] at z; cases z⟩
    have S5 : Inv (suiteX X a ((a, oe4) :: (more ++ (X.pn ++ pins)))) [] σ' H' { s' with heap := h4 } := rePin (X := suiteX X a ((a, oe4) :: (X.pn ++ pins))) S4 fun p hp => by
      rcases List.mem_cons.mp (show p ∈ (a, oe4) :: (more ++ (X.pn ++ pins) ++ []) from hp) with e | hp
      · rw [e]
        exact S4.pin (a, oe4) (List.mem_append_left _ List.mem_cons_self)
      · rw [List.append_nil] at hp
        rcases List.mem_append.mp hp with hp | hp
        · exact hmore p hp
        · exact S4.pin p (List.mem_append_left _ (List.mem_cons_of_mem _ hp))
    have back : ∀ {σ6 : St} {H6 : Hp} {s6 : Shared} {pins6 : List (Addr × Obj)}, Inv (suiteX X a ((a, oe4) :: (more ++ (X.pn ++ pins)))) pins6 σ6 H6 s6 → Inv X pins σ6 H6 s6 := fun z => toDef z ok fun p hp => List.mem_cons_of_mem _ (List.mem_append_right _ hp)
    have tkS : L2.Takes (suiteX X a ((a, oe4) :: (more ++ (X.pn ++ pins)))) Wout := fun u2 s2 ⟨a2, B2, sI2, pn2, σ2, H2, cls2, d2, e2, I2, r2⟩ => tk u2 s2 ⟨a2, B2, sI2, pins, σ2, H2, cls2, d2, e2, back I2, r2⟩
    refine wpAny_mono ((hsu a cls d _ tkS hot).run [] _ _ H' _ S5 (hyes a na)) (fun f s6 hsp => ?_) (fun e6 s6 z => hpa (some (.ref a)) e6 s6 z)
    cases f with
    | next =>
      obtain ⟨σ6, H6, S6, q6⟩ := hsp
      exact ⟨_, _, back S6, q6⟩
    | brk =>
      obtain ⟨σ6, H6, S6, q6⟩ := hsp
      exact ⟨_, _, back S6, q6⟩
    | cont =>
      obtain ⟨σ6, H6, S6, q6⟩ := hsp
      exact ⟨_, _, back S6, q6⟩
    | ret u =>
      obtain ⟨v6, σ6, H6, S6, r6, q6⟩ := hsp
      exact ⟨_, _, _, back S6, r6, q6⟩
  · cases f with
    | next =>
      obtain ⟨σ', H', J', q⟩ := hsp
      exact wpAny_execs_nil ⟨σ', H', J'.ofTry ok, q⟩
    | brk =>
      obtain ⟨σ', H', J', q⟩ := hsp
      exact ⟨σ', H', J'.ofTry ok, q⟩
    | cont =>
      obtain ⟨σ', H', J', q⟩ := hsp
      exact ⟨σ', H', J'.ofTry ok, q⟩
    | ret u =>
      obtain ⟨v, σ', H', J', r, q⟩ := hsp
      exact ⟨v, σ', H', J'.ofTry ok, r, q⟩
end
/-! ### several clauses, each with the same name -/
def wMas (K : PySem.W.Frag) (i : Nat) (D : Ends) : List (Value × (Addr → Value → Option Addr → TS)) → WX
  | [] => fun _ _ _ _ => False
  | (c, ts) :: r => fun cls d σ H => ∃ b, PySem.W.exmOne K cls c = some b ∧ (b = true → ∀ a, H a = none → ts a cls d { nx := fun σ' H' => D.nx (σ'.set i none) H', rt := D.rt, bk := fun σ' H' => D.bk (σ'.set i none) H', ct := fun σ' H' => D.ct (σ'.set i none) H' } (σ.set i (some (.ref a))) H) ∧
      (b = false → wMas K i D r cls d σ H)
inductive HdsAs (X : Cx) (n : Str) : List ExceptHandler → List (Value × (Addr → Value → Option Addr → TS)) → Prop
  | nil {hds : List ExceptHandler} : HdsAs X n hds []
  | cons {x : Str} {c : Value} {ts : Addr → Value → Option Addr → TS} {b₀ : Stmt} {suite : List Stmt} {np pos' : Pos} {hds : List ExceptHandler} {l : List (Value × (Addr → Value → Option Addr → TS))} (hc : Names X x c)
      (hsu : ∀ (a : Addr) (oe : Obj) (cls : Value) (d : Option Addr) (pn : List (Addr × Obj)), Zc cls d oe → (∃ vs, oe.data = .fields vs) → PSs (X.suite a ((a, oe) :: pn)) (b₀ :: suite) (ts a cls d)) (r : HdsAs X n hds l) :
      HdsAs X n (.ExceptHandler (some (.Name x np)) (some n) (b₀ :: suite) pos' :: hds) ((c, ts) :: l)
section
variable {X : Cx} {n : Str} {i : Nat} {body : List Stmt} {h₀ : ExceptHandler} {hds : List ExceptHandler} {l : List (Value × (Addr → Value → Option Addr → TS))} {pos : Pos} {tb : WX → TS}
theorem ps_try_mas (hs : X.stack = X.env :: X.outer) (hf : X.env.frame = some X.env.locals) (hN : X.N.Nodup) (hi : X.N[i]? = some n) (hln : X.env.kindOf n = some .local)
    (hb : ∀ (W : WX) (pn : List (Addr × Obj)) (xe : Value → Shared → Prop), L2.Takes (X.tr pn xe) W → PSs (X.tr pn xe) body (tb W))
    (hh : HdsAs X n (h₀ :: hds) l) : PS X (.Try body (h₀ :: hds) [] [] pos) (fun D σ H => tb (wMas X.K i D l) D σ H) := by
  refine ⟨fun pins s σ H D I h => ?_⟩
  have ok := I.ok
  have hfr : X.A.frames = some (X.env :: X.outer) := ok.frames.trans (congrArg some hs)
  have hloc : Loc X.env.scope n := .inl hln
  refine wpAny_Try_except ?_
  refine wpAny_mono ((hb (wMas X.K i D l) (X.pn ++ pins) (fun e s₁ => wpAny (model X.prog X.w) X.A (noteFrame e X.env) (fun _ s₂ => wpAny (model X.prog X.w) X.A (setFlight e none) (fun _ s₃ =>
    wpAny (model X.prog X.w) X.A (handleBy e X.env (h₀ :: hds)) (SP X pins D) X.xe s₃) X.xe s₂) X.xe s₁) (fun u s' xx => ?_)).run [] s σ H D (I.toTry _) h) (fun f s1 hsp => ?_) (fun e s1 he => he)
  · obtain ⟨a, B, sI, pins', σ', H', cls, d, rfl, J', nb, up, sky, na, os, ag, w⟩ := xx
    have J : Inv X pins σ' H' sI := J'.ofTry ok
    rw [show (X.tr (X.pn ++ pins) _).stack = X.env :: X.outer from hs] at sky
    show wpAny (model X.prog X.w) X.A (noteFrame (.ref a) X.env) _ _ _
    refine L2.Sky.land Zc.steady hfr hf sky fun h3 fl3 up3 => ?_
    have J3 : Inv X pins σ' H' { s' with heap := h3 } := J.landed nb fl3.1 (up.trans up3) os ag
    obtain ⟨oe3, vs3, he3, hz3, hd3⟩ := fl3.there
    have nfr : a ∉ frs (X.env :: X.outer) := fun hm => by
      obtain ⟨_, o', e', hnf⟩ := (fl3.2.2.1).mem hm
      rw [he3] at e'
      cases e'
      exact hnf _ hd3
    have nL : a ≠ X.env.locals := fun z => nfr (List.mem_filterMap.mpr ⟨X.env, List.mem_cons_self, by rw [hf, z]⟩)
    have nF : a ∉ X.fs := fun hm => by
      obtain ⟨e, he, q⟩ := List.mem_filterMap.mp hm
      exact nfr (List.mem_filterMap.mpr ⟨e, List.mem_cons_of_mem _ he, q⟩)
    have S3 := J3.suite he3 hd3 na nL nF
    have go : ∀ {hds' : List ExceptHandler} {l' : List (Value × (Addr → Value → Option Addr → TS))}, HdsAs X n hds' l' → wMas X.K i D l' cls d σ' H' →
        wpAny (model X.prog X.w) X.A (handleBy (.ref a) X.env hds') (SP X pins D) X.xe { s' with heap := h3 } := by
      intro hds' l' hk
      induction hk with
      | nil => exact fun w => False.elim w
      | @cons x c ts b₀ suite np pos' hds2 l2 hc hsu r ih =>
        intro w
        obtain ⟨b, hb1, hyes, hno⟩ := w
        refine wpAny_handleBy_cons (codeAny_handlers_test ?_) (by intro q; cases q)
        have LT : PySem.W.Looks (model X.prog X.w) h3 (typeOf (.ref a)) cls := fun A Q E s k q => wpAny_typeOf_ref (k _ _ he3) (by rw [hz3.1]; exact q)
        have LM := PySem.W.exm_one (M := model X.prog X.w) (J3.kIn) LT hb1
        have test : ∀ {Q : Value → Shared → Prop} {E : Value → Shared → Prop}, Q c { s' with heap := h3 } → wpAny (model X.prog X.w) (X.A.mark (some (.ref a))) (eval (.Name x np) X.env) Q E { s' with heap := h3 } := fun {Q E} q => by
          obtain ⟨hg, hdbg, hm | ⟨hm, hv, hnn⟩⟩ := hc
          · exact ld_glob (X := X.suite a ((a, oe3) :: (X.pn ++ pins))) S3 hg hm q hdbg
          · exact ld_blt (X := X.suite a ((a, oe3) :: (X.pn ++ pins))) S3 hg hm hv q hnn hdbg
        refine test (LM.here ?_)
        cases b with
        | false => exact ih (hno rfl)
        | true =>
          refine codeAny_handlers_suite_as ?_
          refine HandSPX.lands_againZ fl3 fun h4 fl4 up4 => ?_
          have J4 : Inv X pins σ' H' { s' with heap := h4 } := J.landed nb fl4.1 ((up.trans up3).trans up4) os ag
          obtain ⟨oe4, vs4, he4, hz4, hd4⟩ := fl4.there
          have S4 := J4.suite he4 hd4 na nL nF
          refine store_ok (X := X.suite a ((a, oe4) :: (X.pn ++ pins))) (v := .ref a) S4 hN hi hloc rfl (fun s5 S5 => ?_) (.inr hln)
          refine wpAny_mono ((hsu a oe4 cls d (X.pn ++ pins) hz4 ⟨_, hd4⟩).run [] s5 _ H' _ S5 (hyes rfl a na)) (fun f s6 hsp => ?_) (fun _ _ z => False.elim z)
          have end_ : ∀ {σ6 : St} {H6 : Hp} {Q : Shared → Prop}, Inv (X.suite a ((a, oe4) :: (X.pn ++ pins))) [] σ6 H6 s6 → (∀ s7, Inv X pins (σ6.set i none) H6 s7 → Q s7) →
              wpAny (model X.prog X.w) X.A (do bindName X.env n .none; unbindBehindTheSuite X.env n pos') (fun _ s7 => Q s7) X.xe s6 := fun {σ6 H6 Q} S6 hq => gone_ok (S6.unsuite ok) hN hi hln hq
          cases f with
          | next =>
            obtain ⟨σ6, H6, S6, q6⟩ := hsp
            exact end_ S6 fun s7 J7 => ⟨_, _, J7, q6⟩
          | brk =>
            obtain ⟨σ6, H6, S6, q6⟩ := hsp
            exact end_ S6 fun s7 J7 => ⟨_, _, J7, q6⟩
          | cont =>
            obtain ⟨σ6, H6, S6, q6⟩ := hsp
            exact end_ S6 fun s7 J7 => ⟨_, _, J7, q6⟩
          | ret u =>
            obtain ⟨v6, σ6, H6, S6, r6, q6⟩ := hsp
            exact end_ S6 fun s7 J7 => ⟨_, _, _, J7, r6, q6⟩
    exact go hh w
  · cases f with
    | next =>
      obtain ⟨σ', H', J', q⟩ := hsp
      exact wpAny_execs_nil ⟨σ', H', J'.ofTry ok, q⟩
    | brk =>
      obtain ⟨σ', H', J', q⟩ := hsp
      exact ⟨σ', H', J'.ofTry ok, q⟩
    | cont =>
      obtain ⟨σ', H', J', q⟩ := hsp
      exact ⟨σ', H', J'.ofTry ok, q⟩
    | ret u =>
      obtain ⟨v, σ', H', J', r, q⟩ := hsp
      exact ⟨v, σ', H', J'.ofTry ok, r, q⟩
end
end XP
/-! E5: a list comprehension whose element may raise (a call's exception, its context None). -/
namespace XP
open PySem PySem.Spec PyProof.Rows L2 HotX L2H
/-- a call's exception, over the state without it -/
theorem call_air {X : Cx} {pins : List (Addr × Obj)} {σ : St} {H : Hp} {s s' : Shared} {E : XK} {u : Value} (I : Inv X pins σ H s) (x : L2N.CX X.prog X.w X.stack H s E u s') :
    ∃ (a : Addr) (B : Heap) (sI : Shared) (H' : Hp) (cls : Value) (d : Option Addr), u = .ref a ∧ Inv X pins σ H' sI ∧ (∀ b o, sI.heap.get? b = some o → b ∉ frs X.stack → B.get? b = some o) ∧ sI.heap.UpToSlots s'.heap ∧
      HandSPX.FlyingZ B X.stack a (L2N.Zn cls d) s'.heap ∧ H' a = none ∧ s'.os = sI.os ∧ AllBare s'.gens ∧ E cls d H' := by
  obtain ⟨a, B, H', cls, d, rfl, fl, hok, ub, na, os, ag, hE⟩ := x
  obtain ⟨G, g1, g2⟩ := restrict s'.heap fun b => (B.get? b).isSome || decide (b ∈ frs X.stack)
  have st : B.StaysIn s'.heap := fl.1
  have gB : ∀ b o, B.get? b = some o → G.get? b = some o := fun b o e => (g1 b (by simp [e])).trans (st b o e)
  have gF : ∀ b, b ∈ frs X.stack → G.get? b = s'.heap.get? b := fun b hb => g1 b (by simp [hb])
  have og : ∀ b o, G.get? b = some o → s'.heap.get? b = some o ∧ ((B.get? b).isSome = true ∨ b ∈ frs X.stack) := fun b o e => by
    by_cases q : ((B.get? b).isSome || decide (b ∈ frs X.stack)) = true
    · rw [g1 b q] at e
      exact ⟨e, by simpa [Bool.or_eq_true] using q⟩
    · rw [g2 b (by simpa using q)] at e
      cases e
  have slotF : ∀ b o, s.heap.get? b = some o → b ∈ frs X.stack → ∃ sl, G.get? b = some { o with slots := sl } := fun b o e hb => by
    obtain ⟨sl, q⟩ := ub.slot b o e hb
    exact ⟨sl, (gF b hb).trans q⟩
  refine ⟨a, B, { s with heap := G, gens := s'.gens, drawn := s'.drawn, toks := s'.toks }, H', cls, d, rfl, ?_, fun b o e hb => ?_, Heap.UpToSlots.of_keeps fun b o e => (og b o e).1, fl, na, os, ag, hE⟩
  · refine I.call (ch := []) ⟨fun b o e n hb _ => gB b o (ub.keep b o e n hb), fun b o e _ hb _ => slotF b o e hb, fun b o e n _ => ub.free b o e n, fun b o e _ => ?_, ub.tups, ub.frzs, ub.tbls⟩ (hok.kept gB) ag (fun _ z => nomatch z)
    by_cases hb : b ∈ frs X.stack
    · obtain ⟨sl, q⟩ := slotF b o e hb
      exact ⟨_, q⟩
    · obtain ⟨o', q⟩ := ub.there b o e hb
      exact ⟨o', gB b o' q⟩
  · obtain ⟨e', h⟩ := og b o e
    rcases h with h | h
    · obtain ⟨o', q⟩ := Option.isSome_iff_exists.mp h
      rw [st b o' q] at e'
      rw [q, e']
    · exact absurd h hb
/-- what the element of a block may let out -/
def BlkX (X : Cx) (W : WX) (σ0 : St) (Y : Cx) : Prop := ∀ (E : XK) (pins : List (Addr × Obj)) (σ' : St) (H' : Hp) (s' : Shared) (e : Value) (s'' : Shared), (∀ cls d H2, E cls d H2 → W cls d σ0 H2) → Inv Y pins σ' H' s' → L2N.CX X.prog X.w X.stack H' s' E e s'' → Y.xe e s''
/-- the block C is let go, then the exception goes on in the def's frame -/
theorem blk_out {X : Cx} {W : WX} {pins pins2 : List (Addr × Obj)} {σ σ2 : St} {H H1 : Hp} {s s1 s2 : Shared} {scope : Scope} {ce : Env} {fp : List Addr} {xe : Value → Shared → Prop} {C : Addr} {E : XK} {u : Value} (hs : X.stack = X.env :: X.outer) (hf : X.env.frame = some X.env.locals) (tk : L2N.Takes X W)
    (I : Inv X pins σ H s) (hfp : ∀ b ∈ fp, FpOk X pins H b) (cL : ce.locals = C) (cF : ce.frame = X.env.frame) (hC : s.heap.objs.size ≤ C)
    (J : Inv ({ X.blk s H scope ce fp with xe := xe }) pins2 σ2 H1 s1) (c : L2N.CX X.prog X.w X.stack H1 s1 E u s2) (hW : ∀ cls d H', E cls d H' → W cls d σ H') : notedBy (model X.prog X.w) X.A ce (CompFails (model X.prog X.w) X.A X.xe ce) u s2 := by
  obtain ⟨a, B, sI, H2, cls, d, rfl, J2, nb, up, fl, na, os, ag, hE⟩ := call_air J c
  have hfr : X.A.frames = some (X.env :: X.outer) := I.ok.frames.trans (congrArg some hs)
  have fl : HandSPX.FlyingZ B (X.env :: X.outer) a (L2N.Zn cls d) s2.heap := by rw [← hs]; exact fl
  have hfC : ce.frame = some X.env.locals := cF.trans hf
  show wpAny _ _ (noteFrame (.ref a) ce) _ _ s2
  rw [noteFrame_env _ cF]
  refine PXN.looks_onZ L2N.Zn.steady hfr hf fl fun h1 held up1 => ?_
  obtain ⟨m0, hn0, _⟩ := J2.loc
  have hn0 : sI.heap.Ns ce.locals m0 := hn0
  have hn1 : h1.Ns ce.locals m0 := (hn0.upToSlots fun b o e hnf => up b o e hnf).upToSlots fun b o e hnf => up1 b o e hnf
  refine ⟨m0, hn1, fun h2 m2 hn2 hs2 => ?_⟩
  obtain ⟨b1, bn, f1, t1⟩ := held
  have hid : ∀ {b : Addr} {o : Obj}, (PySem.W.hideAll B [ce.locals]).get? b = some o → b ≠ ce.locals ∧ B.get? b = some o := fun {b o} e => by
    refine ⟨fun z => ?_, PySem.W.of_hideAll _ e⟩
    rw [PySem.W.hideAll_none [ce.locals] (by rw [z]; exact List.mem_cons_self)] at e
    cases e
  have hidN : ∀ {b : Addr}, B.get? b = none → (PySem.W.hideAll B [ce.locals]).get? b = none := fun {b} n => by
    cases q : (PySem.W.hideAll B [ce.locals]).get? b with
    | none => rfl
    | some o =>
      have z := (hid q).2
      rw [n] at z
      cases z
  have offC : ∀ {b : Addr} {o : Obj} {vs : Array Value}, h1.get? b = some o → o.data = .fields vs → b ≠ ce.locals := fun {b o vs} e dd z => by
    obtain ⟨oL, es, ep, hoL, hdL, _⟩ := hn1
    rw [z, hoL] at e
    cases e
    rw [hdL] at dd
    cases dd
  have f2 : h2.FunFrames (PySem.W.hideAll B [ce.locals]) (X.env :: X.outer) := funFrames_none (Heap.FunFrames.sameBut hs2 hn2 f1) fun L hL => hidN (f1.mem hL).1
  obtain ⟨oe, vs, T, oT, ts, he, hz, hd, e1, hnT, hTe, hT, hdT, h3⟩ := t1
  have held2 : HandSPX.HeldZ (PySem.W.hideAll B [ce.locals]) (X.env :: X.outer) a (L2N.Zn cls d) X.env.locals h2 :=
    ⟨fun b o e => (hs2.2 b (hid e).1).trans (b1 b o (hid e).2), hidN bn, f2, oe, vs, T, oT, ts, (hs2.2 a (offC he hd)).trans he, hz, hd, e1, hidN hnT, hTe, (hs2.2 T (offC hT hdT)).trans hT, hdT, h3⟩
  unfold PySem.passOn
  refine wpAny_bind (wpAny_field ((hs2.2 a (offC he hd)).trans he) hd e1 ?_)
  rw [if_neg (show ¬ ((Value.ref T == Value.none) = true) from by simp), hfC]
  refine wpAny_bind (HandSPX.setFlight_onZ (s := { s2 with heap := h2 }) held2 fun h3 held3 up3 => ?_)
  refine wpAny_throw (tk _ _ ?_)
  -- the state without the exception, without the block
  have Jd : Inv X pins σ H2 sI := I.call' (ch := fp) J2.os J2.base J2.hok J2.bare fun b hb => ⟨(hfp b hb).2.2.2.1, (hfp b hb).2.1, (hfp b hb).2.2.2.2.1, (hfp b hb).2.2.2.2.2⟩
  have nC : H2 ce.locals = none := J2.free
  obtain ⟨f0, g1, g2, g3, g4, g5⟩ := I.fpOk (H' := H2) (b := ce.locals) (by rw [cL]; exact hC) nC
  have Jh : Inv X pins σ H2 { sI with heap := PySem.W.hideAll sI.heap [ce.locals] } := Jd.turned (it := ce.locals) (t' := sI.toks) (fun b o hb e => PySem.W.hideAll_get _ e (by simpa using hb)) nC g1 g3 g4 g5
  refine ⟨a, PySem.W.hideAll B [ce.locals], _, pins, σ, H2, cls, d, rfl, Jh, fun b o e hb => ?_, fun b o e hnf => ?_, .inr (.inr (by rw [hs]; exact held3)), na, os, ag, hW _ _ _ hE⟩
  · have hb2 : b ≠ ce.locals := fun z => by
      rw [show ({ sI with heap := PySem.W.hideAll sI.heap [ce.locals] } : Shared).heap.get? b = none from PySem.W.hideAll_none [ce.locals] (by rw [z]; exact List.mem_cons_self)] at e
      cases e
    exact PySem.W.hideAll_get _ (nb b o (PySem.W.of_hideAll _ e) hb) (by simpa using hb2)
  · have hb2 : b ≠ ce.locals := fun z => by
      rw [show ({ sI with heap := PySem.W.hideAll sI.heap [ce.locals] } : Shared).heap.get? b = none from PySem.W.hideAll_none [ce.locals] (by rw [z]; exact List.mem_cons_self)] at e
      cases e
    obtain ⟨sl1, q1⟩ := up b o (PySem.W.of_hideAll _ e) hnf
    obtain ⟨sl2, q2⟩ := up1 b _ q1 hnf
    obtain ⟨sl3, q3⟩ := up3 b _ ((hs2.2 b hb2).trans q2) hnf
    exact ⟨sl3, q3⟩
/-- [elt for tg in iter if ..] as a value, the element may raise -/
theorem pe_lcX {X : Cx} {W : WX} {elt tg iter : Expr} {ifs : List Expr} {scope : Scope} {own : List (Str × Nat)} {pos : Pos} {wi : TI} {g : TG} {tt : TT} {te : St → TE} (hst : X.stack = X.env :: X.outer) (hf : X.env.frame = some X.env.locals) (tk : L2N.Takes X W)
    (hc : X.calm = true) (hN : X.N.Nodup) (hi : PI X tg iter wi) (ok : BlkOk X.N X.env.scope scope own)
    (hg : ∀ (s : Shared) (H : Hp) (C : Addr) (cl : List (Str × Addr)) (fp : List Addr), PG (X.blk s H scope (compEnvC scope cl C X.env) fp) tg g) (ht : ∀ (s : Shared) (H : Hp) (C : Addr) (cl : List (Str × Addr)) (fp : List Addr), PTs (X.blk s H scope (compEnvC scope cl C X.env) fp) ifs tt)
    (he : ∀ (σ0 : St) (s : Shared) (H : Hp) (C : Addr) (cl : List (Str × Addr)) (fp : List Addr) (xe : Value → Shared → Prop), BlkX X W σ0 ({ X.blk s H scope (compEnvC scope cl C X.env) fp with xe := xe }) → PE ({ X.blk s H scope (compEnvC scope cl C X.env) fp with xe := xe }) elt (te σ0))
    (hs : ∀ x, foldedSetIterable iter X.env x = pure x := by intro _; rfl) :
    PE X (.ListComp elt [⟨tg, iter, ifs, 0⟩] scope pos) (fun σ => tLc wi g tt (te σ) (own.map (·.2)) σ) := by
  refine ⟨fun pins s σ H Q I h => ?_⟩
  rw [eval_ListComp]
  have hfree : ∀ y ∈ scope.names, y.2 = .free → ∃ c, X.env.cells.lookup y.1 = some c := fun y hy e => (ok.free y hy e).elim (fun k => I.ok.has _ (.inl k)) fun k => I.ok.has _ (.inr k)
  refine comprehension_at (use := none) rfl hs (closure_ok hfree) ok.kind (fun y hy e => by rw [ok.uniq y hy, e])
    (thn (hi.run pins s σ H _ I h) fun xv s1 hx => thn hx fun itv s2 h2 => ?_)
  obtain ⟨it, fp, tn, J, H2, e, I2, T, st2, f2, q⟩ := h2
  subst e
  refine wpAny_newObj_type (newEnv_comp ?_) (by show 0 ≤ sizeLine; decide)
  generalize hD : s2.heap.objs.size = D
  have hDn : H2 D = none := I2.hok.fresh (Nat.le_of_eq hD)
  obtain ⟨Wv, ⟨m0, w0⟩, turn⟩ := q D hDn
  generalize hs3 : ({ s2 with heap := s2.heap.push { cls := .type "list", data := .seq ([] : List Value).toArray } } : Shared) = s3
  have h3 : s3.heap = s2.heap.push { cls := .type "list", data := .seq ([] : List Value).toArray } := by rw [← hs3]
  have I3 : Inv X pins σ (upd H2 D (.lst [])) s3 := by
    rw [← hs3]
    refine I2.laid (t' := s2.toks) (fun b o e => Heap.get?_push_of_some _ e) (Nat.le_of_eq hD) ⟨Nat.zero_le _, [], 0, .nil, ?_⟩
    rw [← hD]
    exact Heap.get?_push_size _ rfl
  have f3 : ∀ b ∈ fp, FpOk X pins (upd H2 D (.lst [])) b ∧ b < s3.heap.objs.size := fun b hb => by
    obtain ⟨o, e, _⟩ := T.obj _ _ st2 b hb
    have hlt := Heap.lt_size e
    exact ⟨⟨(upd_ne (by rw [← hD]; exact Nat.ne_of_lt hlt)).trans (f2 b hb).1, (f2 b hb).2⟩, by rw [h3, Heap.size_push]; exact Nat.lt_succ_of_lt hlt⟩
  have st3 : tn 0 s3.heap := T.keep _ _ _ st2 fun b _ o e => by rw [h3]; exact Heap.get?_push_of_some _ e
  have I4 := block_start I3 ok hN f3
  have pg := hg s3 (upd H2 D (.lst [])) s3.heap.objs.size (cellsFrom (s3.heap.objs.size + 1) scope.names (cloFrom X.env.cells scope.names [])) fp
  have pt := ht s3 (upd H2 D (.lst [])) s3.heap.objs.size (cellsFrom (s3.heap.objs.size + 1) scope.names (cloFrom X.env.cells scope.names [])) fp
  have pe := he σ s3 (upd H2 D (.lst [])) s3.heap.objs.size (cellsFrom (s3.heap.objs.size + 1) scope.names (cloFrom X.env.cells scope.names [])) fp
  have nfp : ∀ b ∈ fp, (upd H2 D (.lst [])) b = none := fun b hb => (f3 b hb).1.1
  show codeAny _ _ (.compStart (.ListComp elt [⟨tg, iter, ifs, 0⟩] scope pos) 0 (.ref it) (.ref D) (compEnvC scope (cellsFrom (s3.heap.objs.size + 1) scope.names (cloFrom X.env.cells scope.names [])) s3.heap.objs.size X.env))
    (compEnds (model X.prog X.w) X.A X.xe none _ (.ref D) (compEnvC scope (cellsFrom (s3.heap.objs.size + 1) scope.names (cloFrom X.env.cells scope.names [])) s3.heap.objs.size X.env)) { s3 with heap := pushCells (s3.heap.push { cls := .type "dict", data := .dict #[] }) scope.names }
  generalize hce : compEnvC scope (cellsFrom (s3.heap.objs.size + 1) scope.names (cloFrom X.env.cells scope.names [])) s3.heap.objs.size X.env = ce at I4 pg pt pe ⊢
  have cL : ce.locals = s3.heap.objs.size := by subst hce; rfl
  have cF : ce.frame = X.env.frame := by subst hce; rfl
  generalize hH3 : upd H2 D (.lst []) = H3 at I3 I4 pg pt pe w0 nfp f3
  generalize hs4 : ({ s3 with heap := pushCells (s3.heap.push { cls := .type "dict", data := .dict #[] }) scope.names } : Shared) = s4 at I4 ⊢
  have st4 : tn 0 s4.heap := T.keep _ _ _ st3 fun b _ o e => by rw [← hs4]; exact pushCells_keeps _ _ _ _ (Heap.get?_push_of_some _ e)
  have stat : ∀ {σ' : St} {H' : Hp} {s' : Shared}, Inv (X.blk s3 H3 scope ce fp) [] σ' H' s' → (∀ b ∈ fp, H' b = none) → ∀ b ∈ fp, FpOk (X.blk s3 H3 scope ce fp) [] H' b := fun {σ' H' s'} I' hn b hb =>
    ⟨hn b hb, (I'.ok.exf b hb).1, I'.ok.exfs b hb, .inl hb, fun x c e => (I'.ok.exf b hb).2 x c e, fun p hp => absurd (show p ∈ ([] : List (Addr × Obj)) ++ [] from hp) (by simp)⟩
  have pe := pe (notedBy (model X.prog X.w) X.A ce (CompFails (model X.prog X.w) X.A X.xe ce)) (fun E pins2 σ' H' s' e s'' hW Jb cx => blk_out hst hf tk I3 (fun b hb => (f3 b hb).1) cL cF (Nat.le_refl _) Jb cx hW)
  have loop : codeAny (model X.prog X.w) X.A (.compLoop (.ListComp elt [⟨tg, iter, ifs, 0⟩] scope pos) 0 (.ref it) (.ref D) ce) (compEnds (model X.prog X.w) X.A X.xe none (EP X pins σ Q) (.ref D) ce) s4 := by
    refine compLoop_any (fun n s' => ∃ i H', Inv (X.blk s3 H3 scope ce fp) [] (wipe σ (own.map (·.2))) H' s' ∧ tn i s'.heap ∧ (∀ b ∈ fp, H' b = none) ∧ Wv i n H') ?_ m0 ⟨0, H3, I4, st4, nfp, w0⟩
    rintro n s5 ⟨i, H5, I5, st5, n5, w5⟩
    rcases turn i n H5 w5 with ⟨stop, qq⟩ | ⟨go, Nx, hNx, step⟩
    · refine thnF (T.done (X.blk s3 H3 scope ce fp) rfl rfl rfl hc i [] s5 _ H5 (fun _ _ => False) I5 (stat I5 n5) st5 stop) fun r s6 ⟨hr, I6⟩ => ?_
      subst hr
      have I7 : Inv X pins σ H5 s6 := I3.call' (ch := fp) I6.os I6.base I6.hok I6.bare fun b hb => ⟨(f3 b hb).1.2.2.2.1, (f3 b hb).1.2.1, (f3 b hb).1.2.2.2.2.1, (f3 b hb).1.2.2.2.2.2⟩
      have nC : H5 s3.heap.objs.size = none := by rw [← cL]; exact I6.free
      obtain ⟨m, hn, _⟩ := I6.loc
      have hn : s6.heap.Ns ce.locals m := hn
      refine ⟨m, hn, fun h'' sb => ?_⟩
      obtain ⟨f0, f1, f2', f4, f5, f6⟩ := I3.fpOk (H' := H5) (b := s3.heap.objs.size) (Nat.le_refl _) nC
      exact ⟨.ref D, H5, I7.turned (it := s3.heap.objs.size) (t' := s6.toks) (fun b o hb e => (sb.2 b (by rw [cL]; exact hb)).trans e) f0 f1 f4 f5 f6, rfl, qq⟩
    · refine thnF (T.item (X.blk s3 H3 scope ce fp) rfl rfl rfl hc i [] s5 _ H5 (fun _ _ => False) I5 (stat I5 n5) st5 go) fun r s6 ⟨u, hr, h6⟩ => ?_
      subst hr
      refine thnF h6 fun _ s7 ⟨x, H7, I7, r7, y7, st7, n7⟩ => ?_
      have I7' := I7.pinned (stat I7 n7) (T.obj _ _ st7)
      refine thnF (pg.run _ s7 _ H7 x u _ I7' r7 (step x H7 y7)) fun _ s8 ⟨σ8, H8, I8, hw8, q8⟩ => ?_
      refine thnF (pt.run _ s8 σ8 H8 _ I8 q8) fun b s9 ⟨H9, I9, q9⟩ => ?_
      have fin : ∀ {s' : Shared} {H' : Hp}, Inv (X.blk s3 H3 scope ce fp) ([] ++ pinsAt fp s7.heap) σ8 H' s' → Nx H' → ∃ m, m < n ∧ ∃ i H', Inv (X.blk s3 H3 scope ce fp) [] (wipe σ (own.map (·.2))) H' s' ∧ tn i s'.heap ∧ (∀ b ∈ fp, H' b = none) ∧ Wv i m H' := fun {s' H'} I' nx => by
        obtain ⟨m', hm, w'⟩ := hNx H' nx
        have pin' : ∀ b ∈ fp, ∀ o, s7.heap.get? b = some o → s'.heap.get? b = some o ∧ H' b = none := fun b hb o e =>
          let z := I'.pin (b, o) (List.mem_append_right _ (List.mem_append_right _ (mem_pinsAt hb e)))
          ⟨z.1, z.2.1⟩
        refine ⟨m', hm, i + 1, H', (I'.unpinned (pins := [])).weak (by rw [← hw8, wipe_length]) (fun j v e => ?_), T.keep _ _ _ st7 fun b hb o e => (pin' b hb o e).1, fun b hb => ?_, w'⟩
        · rw [← hw8] at e
          exact (wipe_some e).1
        · obtain ⟨o, e, _⟩ := T.obj _ _ st7 b hb
          exact (pin' b hb o e).2
      cases b with
      | false =>
        simp only [Bool.false_eq_true, if_false] at q9 ⊢
        exact fin I9 q9
      | true =>
        simp only [if_true] at q9 ⊢
        refine wpAny_mono (pe.run _ s9 σ8 H9 _ (I9.wish _) q9) (fun z s10 ⟨yv, H10, I10, r10, acc, hD10, hz10, nx⟩ => ?_) fun e s10 he => he
        exact app_ok (X := X.blk s3 H3 scope ce fp) (Inv.unwish (X := X.blk s3 H3 scope ce fp) I10) hD10 hz10 r10 fun s11 I11 => fin I11 nx
  exact codeAny_compStart_list loop (T.self X.A 0 _ _ _ st4 loop)
end XP
/-! E6: repr of lists, tuples, empty dicts, flat values and instances with an own __repr__; what the stack guards is known. -/
namespace RP
open PySem PySem.Spec PyProof.Rows L2 Builtin Builtin.List
abbrev St := L2.St
/-- x is shown as t, as: the lists and tuples within it -/
def Rp (X : Cx) (n : Nat) (as : List Addr) (H0 : Hp) (x : V) (t : Str) : Prop :=
  ∀ (base : Nat), base + t.length ≤ sizeLine → ∀ (A : Around) (g : List Code) (pins : List (Addr × Obj)) (s : Shared) (σ : St) (H : Hp) (u : Value), Sub X n A → A.guards = some g → (∀ b ∈ as, Clear g b) → Ext H0 H → Inv X pins σ H s → RelV x u →
    wpAny (model X.prog X.w) A (pyReprUnder base u) (fun r s' => r = t ∧ ∃ H', Inv X pins σ H' s' ∧ Ext H H') X.xe s
section
variable {X : Cx} {n m : Nat} {as bs : List Addr} {H0 H1 : Hp} {x : V} {t : Str}
theorem Rp.mono (h : Rp X n as H0 x t) (hn : n ≤ m) (hs : ∀ b ∈ as, b ∈ bs) (e : Ext H0 H1) : Rp X m bs H1 x t := fun base hb A g pins s σ H u sb hg hc ex I r => h base hb A g pins s σ H u (sb.mono hn) hg (fun b q => hc b (hs b q)) (e.trans ex) I r
theorem Rp.of_is (h : ∀ u, RelV x u → ReprIs X.prog X.w u t) : Rp X n as H0 x t := fun base hb A g pins s σ H u _ _ _ _ I r => h u r base hb A X.xe s _ fun tk => ⟨rfl, H, I.tok tk, Ext.rfl'⟩
theorem rp_str {z : Str} (hz : (reprText z).length ≤ sizeLine) : Rp X n as H0 (.str z) (reprText z) := Rp.of_is fun u r => by
  obtain ⟨tk, rfl⟩ := r
  exact ReprIs.str z tk hz
theorem rp_int {i : Int} (hi : i.natAbs.log2 < 1920) : Rp X n as H0 (.int i) (toString i) := Rp.of_is fun u r => by
  obtain ⟨tk, rfl⟩ := r
  exact ReprIs.int tk hi
theorem rp_non : Rp X n as H0 .non "None" := Rp.of_is fun u r => by
  cases r
  exact ReprIs.none
theorem sub_guard {A : Around} (sb : Sub X (n + 1) A) (id : String) (args : Args) (hu : (A.under (.builtin id args)).units = A.units + 1) (hd : (A.under (.builtin id args)).depth = A.depth + 1) (hf : (A.under (.builtin id args)).frames = A.frames) : Sub X n (A.under (.builtin id args)) :=
  ⟨⟨sb.room.hd, by rw [hd]; have := sb.room.dp; omega, by rw [hu]; have := sb.room.un; omega⟩, hf.trans sb.fr⟩
theorem under_loop (A : Around) (args : Args) : (A.under (.builtin "list.__repr__.loop" args)).depth = A.depth + 1 ∧ (A.under (.builtin "list.__repr__.loop" args)).frames = A.frames := by
  constructor
  · first | rfl | simp [Around.under, Code.weight, Code.isCreation, Code.isGuard, Code.isCaller, Code.frames, Code.isFrame, guardIds]
  · first | rfl | simp [Around.under, Code.envs, Code.isFrame, pushEnvs]
theorem under_tup (A : Around) (args : Args) : (A.under (.builtin "tuple.__repr__" args)).depth = A.depth + 1 ∧ (A.under (.builtin "tuple.__repr__" args)).frames = A.frames := by
  constructor
  · first | rfl | simp [Around.under, Code.weight, Code.isCreation, Code.isGuard, Code.isCaller, Code.frames, Code.isFrame, guardIds]
  · first | rfl | simp [Around.under, Code.envs, Code.isFrame, pushEnvs]
theorem under_tupU (A : Around) (args : Args) : (A.under (.builtin "tuple.__repr__.under" args)).depth = A.depth + 1 ∧ (A.under (.builtin "tuple.__repr__.under" args)).frames = A.frames := by
  constructor
  · first | rfl | simp [Around.under, Code.weight, Code.isCreation, Code.isGuard, Code.isCaller, Code.frames, Code.isFrame, guardIds]
  · first | rfl | simp [Around.under, Code.envs, Code.isFrame, pushEnvs]

/-! ### lists -/
variable {a P : Addr} {xs : List V} {ts : List Str}
theorem strVals {l : List Str} {its : List Value} (r : Vals (l.map V.str) its) : ∃ done : List (Str × Tok), its = strValues done ∧ done.map (·.1) = l := by
  induction l generalizing its with
  | nil =>
    cases r
    exact ⟨[], rfl, rfl⟩
  | cons z l ih =>
    cases r with
    | cons r1 r2 =>
      obtain ⟨tk, rfl⟩ := r1
      obtain ⟨done, e1, e2⟩ := ih r2
      exact ⟨(z, tk) :: done, by rw [e1]; rfl, by rw [List.map_cons, e2]⟩
/-- the items' texts -/
def Items (X : Cx) (n : Nat) (as : List Addr) (H0 : Hp) (xs : List V) (ts : List Str) : Prop := ts.length = xs.length ∧ ∀ (i : Nat) (x : V), xs[i]? = some x → ∃ t, ts[i]? = some t ∧ Rp X n as H0 x t
theorem loop_rp {A : Around} {g : List Code} {pins : List (Addr × Obj)} {σ : St} {H : Hp} {R : Result → Shared → Prop} {base : Nat} (sb : Sub X (n + 1) A) (hg : A.guards = some g) (hcl : ∀ b ∈ as, Clear g b) (hna : a ∉ as) (hI : Items X n as H0 xs ts) (hsz : base + (listText ts).length ≤ sizeLine)
    (ex : Ext H0 H) (ha : H a = some (.lst xs)) (hP : H P = none) (herr : ∀ e s', X.xe e s' → R (.error e) s') (hR : ∀ s' H' u, Inv X pins σ H' s' → Ext H H' → R (.ok (.ret (.str (listText ts) u))) s') :
    ∀ (k i : Nat) (s : Shared) (H1 : Hp), xs.length - i = k → i ≤ xs.length → Inv X pins σ H1 s → Ext H H1 → H1 P = some (.lst ((ts.take i).map V.str)) →
      codeAny (model X.prog X.w) A (.builtin "list.__repr__.loop" ⟨[.ref a, rawInt i, .ref P, rawInt ((base + piled (ts.take i) : Nat) : Int)], []⟩) R s := by
  obtain ⟨hlen, hT⟩ := hI
  have hX : (listText ts).length = (textFrom 0 "[" ts).length + 1 := by
    show (textFrom 0 "[" ts ++ "]").length = _
    rw [strLen_append]; rfl
  have hL := textFrom_len ts 0 "["
  have hsz2 : ∀ t ∈ ts, t.length ≤ sizeLine := fun t ht => by
    have h2 := hL.2.1 t ht
    omega
  have hsz3 : (listText ts).length ≤ sizeLine := by omega
  have hp3 := piled_le_listText ts
  have hne : a ≠ P := ne_of_none ha hP
  intro k
  induction k with
  | zero =>
    intro i s H1 hk hi I e1 p1
    have hin : i = ts.length := by omega
    obtain ⟨_, its, na, r, oa⟩ := I.hok a _ (e1 _ _ ha)
    obtain ⟨_, jts, nP, rP, oP⟩ := I.hok P _ p1
    obtain ⟨done, rfl, hd⟩ := strVals rP
    refine codeAny_builtin F.entry_list_repr_loop ?_
    show wpAny _ _ («list.__repr__.loop» ⟨[.ref a, .int i 0, .ref P, .int ((base + piled (ts.take i) : Nat) : Int) 0], []⟩) _ _ s
    rw [repr_loop_tree]
    refine wpAny_bind (wpAny_listItems oa rfl ?_)
    have hnone : its.toArray[(i : Int).toNat]? = none := by
      have := r.length
      simp
      omega
    simp only [hnone]
    unfold reprEnd
    refine wpAny_bind (wpAny_listItems oP rfl ?_)
    rw [show (strValues done).toArray.toList = strValues done from by simp, repr_fold]
    refine wpAny_bind (wpAny_pure ?_)
    rw [hd, hin, List.take_length]
    refine wpAny_bind (wpAny_mkStr (wpAny_pure ?_) hsz3)
    exact hR _ H1 _ (I.tok _) e1
  | succ k ih =>
    intro i s H1 hk hi I e1 p1
    have hlt : i < xs.length := by omega
    obtain ⟨t, ht, hrep⟩ := hT i xs[i] (by simp [hlt])
    have hp1 := piled_take_succ ht
    have hp2 := piled_take_le ts (i + 1)
    obtain ⟨_, its, na, r, oa⟩ := I.hok a _ (e1 _ _ ha)
    obtain ⟨u, hu, ru⟩ := r.get (show xs[i]? = some xs[i] from by simp [hlt])
    refine codeAny_builtin F.entry_list_repr_loop ?_
    show wpAny _ _ («list.__repr__.loop» ⟨[.ref a, .int i 0, .ref P, .int ((base + piled (ts.take i) : Nat) : Int) 0], []⟩) _ _ s
    rw [repr_loop_tree]
    refine wpAny_bind (wpAny_listItems oa rfl ?_)
    have hsome : its.toArray[(i : Int).toNat]? = some u := by simpa using hu
    simp only [hsome]
    rw [Int.toNat_natCast]
    refine wpAny_bind (wpAny_holding (wpAny_mono (hrep (base + piled (ts.take i) + 1) (by omega) _ _ pins s σ H1 u (sub_guard sb _ _ (units_under_list_loop _ _) (under_loop _ _).1 (under_loop _ _).2) (guards_under_guard (isGuard_list_loop _) hg) (fun b hb => (hcl b hb).cons (a := a) fun e => hna (e ▸ hb)) (ex.trans e1) I ru) (fun r s2 q => ?_) fun e s2 q => herr e s2 q))
    obtain ⟨rfl, H2, I2, e2⟩ := q
    refine wpAny_bind (wpAny_mkStr ?_ (hsz2 r (List.mem_of_getElem? ht)))
    refine wpAny_bind ?_
    show wpAny _ _ (updateSeq P _) _ _ _
    obtain ⟨hz, jts, nP, rP, oP⟩ := I2.hok P _ (e2 _ _ p1)
    have hjl : jts.toArray.size ≤ sizeLine := by
      rw [List.size_toArray, ← rP.length, List.length_map]
      rw [List.length_map] at hz
      exact hz
    refine wpAny_updateSeq oP rfl (wpAny_pure ⟨F.quiet_list_repr_loop _, ?_⟩) hjl
    have c1 : ((i : Int) + 1) = ((i + 1 : Nat) : Int) := by omega
    have c2 : base + piled (ts.take i) + (r.length + 2) = base + piled (ts.take (i + 1)) := by omega
    rw [c1, c2]
    have hPn : H2 P = some (.lst ((ts.take i).map V.str)) := e2 _ _ p1
    have hlen2 : (ts.take i).length ≤ 16777215 := by
      have h5 : i < ts.length := by omega
      have h6 := hL.1
      rw [if_neg (Nat.lt_irrefl 0)] at h6
      have h7 : (ts.take i).length ≤ i := by rw [List.length_take]; omega
      have h8 : sizeLine = 16777216 := sizeLine_eq
      omega
    refine ih (i + 1) _ (upd H2 P (.lst ((ts.take (i + 1)).map V.str))) (by omega) hlt (I2.write (t' := s2.toks + 1) (x := P) (e := P) (by rw [hPn]; trivial) (.inl rfl) (fun b o hb e => (Heap.get?_update_other _ _ (Ne.symm hb)).trans e) ⟨_, Heap.get?_update_self _ oP rfl⟩
      ⟨by rw [List.length_map, List.length_take]; have h8 : sizeLine = 16777216 := sizeLine_eq; rw [List.length_take] at hlen2; omega, jts ++ [Value.str r s2.toks], nP + 1, ?_, ?_⟩) (fun b o e => ?_) upd_same
    · rw [List.take_add_one, ht]
      rw [List.map_append]
      exact rP.append (.cons ⟨_, rfl⟩ .nil)
    · rw [Heap.get?_update_self _ oP rfl]
      simp [Obj.mapSeq]
    · have hb : b ≠ P := ne_of_none e hP
      rw [upd_ne hb]
      exact e2 _ _ (e1 _ _ e)
theorem list_reprAt_rp {A : Around} {g : List Code} {pins : List (Addr × Obj)} {σ : St} {H : Hp} {s : Shared} {R : Result → Shared → Prop} {base : Nat} (sb : Sub X (n + 1) A) (hg : A.guards = some g) (hcl : ∀ b ∈ a :: as, Clear g b) (hna : a ∉ as) (hI : Items X n as H0 xs ts) (hne : xs ≠ []) (hsz : base + (listText ts).length ≤ sizeLine)
    (ex : Ext H0 H) (ha : H a = some (.lst xs)) (I : Inv X pins σ H s) (herr : ∀ e s', X.xe e s' → R (.error e) s') (hR : ∀ s' H' u, Inv X pins σ H' s' → Ext H H' → R (.ok (.ret (.str (listText ts) u))) s') :
    wpAny (model X.prog X.w) A.in1 (Builtin.listReprAt base ⟨[.ref a], []⟩) (fun fin s' => match fin with | .done f => R (.ok f) s' | .again c' => c'.quiet = true ∧ codeAny (model X.prog X.w) A c' R s') (fun e s' => R (.error e) s') s := by
  have hca : Clear g a := hcl a (.head _)
  obtain ⟨_, its, na, r, oa⟩ := I.hok a _ ha
  obtain ⟨x, l, rfl⟩ : ∃ x l, its = x :: l := by
    cases its with
    | nil => cases r; exact absurd rfl hne
    | cons x l => exact ⟨x, l, rfl⟩
  refine wpAny_list_repr_head (A := A.in1) hg (fun v rest kw hm => listSameRef_of_ne (hca _ _ _ _ hm)) oa rfl ?_
  refine wpAny_bind (m := newList []) (wpAny_newObj_type ?_)
  refine wpAny_pure ⟨F.quiet_list_repr_loop _, ?_⟩
  have hfr : H s.heap.objs.size = none := I.hok.fresh (Nat.le_refl _)
  have I2 : Inv X pins σ (upd H s.heap.objs.size (.lst [])) _ := I.laid (t' := s.toks) (a := s.heap.objs.size) (o := .lst []) (h' := s.heap.push { cls := .type "list", data := .seq #[] 0 }) (fun b o e => Heap.get?_push_of_some _ e) (Nat.le_refl _) ⟨Nat.zero_le _, [], 0, .nil, Heap.get?_push_size _ rfl⟩
  have lp := loop_rp (P := s.heap.objs.size) (R := R) (H := H) sb hg (fun b hb => hcl b (.tail _ hb)) hna hI hsz ex ha hfr herr hR _ 0 _ _ rfl (Nat.zero_le _) I2 (Ext.upd hfr) (by
    rw [List.take_zero, List.map_nil]
    exact upd_same)
  rw [List.take_zero] at lp
  exact lp
theorem under_list {A : Around} {g : List Code} {pins : List (Addr × Obj)} {σ : St} {H : Hp} {s : Shared} {Q : Value → Shared → Prop} {base : Nat} (sb : Sub X (n + 1) A) (hg : A.guards = some g) (hcl : ∀ b ∈ a :: as, Clear g b) (hna : a ∉ as) (hI : Items X n as H0 xs ts) (hsz : base + (listText ts).length ≤ sizeLine)
    (ex : Ext H0 H) (ha : H a = some (.lst xs)) (I : Inv X pins σ H s) (hR : ∀ s' H' u, Inv X pins σ H' s' → Ext H H' → Q (.str (listText ts) u) s') :
    wpAny (model X.prog X.w) A (pyReprObjUnder base (.ref a)) Q X.xe s := by
  obtain ⟨_, its, na, r, oa⟩ := I.hok a _ ha
  have hu : A.units < cLine := sb.room.units0
  cases xs with
  | nil =>
    cases r
    have h0 : ts = [] := by
      have := hI.1
      cases ts with
      | nil => rfl
      | cons t ts => simp at this
    subst h0
    exact wpAny_pyReprObjUnder_list_empty ⟨_, oa, rfl⟩ hu oa rfl (hR _ H _ (I.tok _) Ext.rfl')
  | cons x xs =>
    refine wpAny_pyReprObjUnder_twin (twin := "list.__repr__.under") ⟨_, oa, rfl⟩ F.slot_list_repr.toG rfl hu ?_
    exact call_twin_plain F.plain_list_repr_under F.entry_list_repr_under F.check_list_repr_under ⟨_, oa, rfl⟩ F.slot_list_repr.toG (F.args_list_repr_1 _)
      (list_reprAt_rp (R := callEnd (fun v s' => (∃ x u, v = .str x u) ∧ Q v s') X.xe) sb hg hcl hna hI (by simp) hsz ex ha I (fun e s' q => q) fun s' H' u I' e' => ⟨⟨_, _, rfl⟩, hR s' H' u I' e'⟩)
/-- a list of what is shown so -/
theorem rp_list (hna : a ∉ as) (hI : Items X n as H0 xs ts) (ha : H0 a = some (.lst xs)) : Rp X (n + 1) (a :: as) H0 (.ref a) (listText ts) := by
  intro base hb A g pins s σ H u sb hg hcl ex I r
  cases r
  exact wpAny_pyReprUnder_ref (by omega) (under_list sb hg hcl hna hI hb ex (ex _ _ ha) I fun s' H' u' I' e' => ⟨_, _, rfl, rfl, H', I', e'⟩)
/-- repr(l) where nothing is shown above -/
theorem call_repr_list {A : Around} {g : List Code} {pins : List (Addr × Obj)} {σ : St} {H : Hp} {s : Shared} {Q : Value → Shared → Prop} (sb : Sub X (n + 3) A) (hg : A.guards = some g) (hcl : ∀ b ∈ a :: as, Clear g b) (hna : a ∉ as) (hI : Items X n as H0 xs ts) (hne : xs ≠ []) (hsz : (listText ts).length ≤ sizeLine)
    (ex : Ext H0 H) (ha : H a = some (.lst xs)) (I : Inv X pins σ H s) (hR : ∀ s' H' u, Inv X pins σ H' s' → Ext H H' → Q (.str (listText ts) u) s') :
    wpAny (model X.prog X.w) A (call (.builtin "repr") [.ref a]) Q X.xe s := by
  obtain ⟨_, its, na, r, oa⟩ := I.hok a _ ha
  have hu : A.in1.units < cLine := (sb.in1).room.units0
  refine Calls.call_function_entry F.kind_repr F.plain_repr F.entry_repr (F.args_repr1 _) ?_
  unfold Builtin.«repr»
  refine wpAny_bind (m := oneArg "repr" _) (wpAny_pure ?_)
  refine wpAny_bind (wpAny_cRoomFor hu ?_)
  refine wpAny_bind (wpAny_specialOf (name := Str.ofString "__repr__") ⟨_, oa, rfl⟩ F.slot_list_repr.lookup ?_)
  refine wpAny_bind (m := callSpecialIfBound? (.ref a) (Str.ofString "__repr__")) (wpAny_callSpecialIfBound?_slot (name := Str.ofString "__repr__") ⟨_, oa, rfl⟩ F.slot_list_repr ?_)
  refine wpAny_call (codeAny_call_builtin F.slot_list_repr.plain F.entry_list_repr (F.slot_list_repr.check _ _ _ _ _ _ _ _ ⟨_, oa, rfl⟩ (F.args_list_repr_1 _)
    (list_reprAt_rp (base := 0) (R := callEnd _ _) ((sb.in1).mono (by omega) : Sub X (n + 1) A.in1) hg hcl hna hI hne (by omega) ex ha I (fun e s' q => q) fun s' H' u I' e' => ?_)))
  refine wpAny_bind (wpAny_isInstance (T := "str") (b := true) rfl isSubtype_str_str ?_)
  exact wpAny_pure ⟨_, rfl, hR s' H' u I' e'⟩

/-! ### tuples -/
theorem tup_rp {A : Around} {g : List Code} {pins : List (Addr × Obj)} {σ : St} (sb : Sub X n A) (hg : A.guards = some g) (hcl : ∀ b ∈ as, Clear g b) : ∀ (xs : List V) (l : List Value) (ts : List Str) (acc : Array Str) (k : Nat) (s : Shared) (H : Hp) (Q : (Array Str × Nat) → Shared → Prop), Vals xs l → Items X n as H0 xs ts → k + piled ts ≤ sizeLine →
    Ext H0 H → Inv X pins σ H s → (∀ s' H', Inv X pins σ H' s' → Ext H H' → Q ⟨acc ++ ts.toArray, k + piled ts⟩ s') →
    wpAny (model X.prog X.w) A (forIn l (⟨acc, k⟩ : (Array Str × Nat)) tupBody) Q X.xe s := by
  intro xs
  induction xs with
  | nil =>
    intro l ts acc k s H Q r hT _ ex I h
    cases r
    have h0 : ts = [] := by
      have := hT.1
      cases ts with
      | nil => rfl
      | cons t ts => simp at this
    subst h0
    have h0 := h s H I Ext.rfl'
    simp only [List.forIn_nil]
    exact wpAny_pure (by simpa [piled] using h0)
  | cons x xs ih =>
    intro l ts acc k s H Q r hT hn ex I h
    cases r with
    | @cons _ u _ l r1 r2 =>
      obtain ⟨t, ht, hx⟩ := hT.2 0 x rfl
      cases ts with
      | nil => simp at ht
      | cons t' ts =>
        simp at ht
        subst ht
        rw [piled_cons] at hn
        rw [List.forIn_cons]
        refine wpAny_bind (wpAny_bind (wpAny_mono (hx (k + 1) (by omega) A g pins s σ H u sb hg hcl ex I r1) (fun r s2 q => ?_) fun _ _ z => z))
        obtain ⟨rfl, H2, I2, e2⟩ := q
        refine wpAny_pure ?_
        refine ih l ts (acc.push r) (k + (r.length + 2)) s2 H2 Q r2 ⟨by have := hT.1; simpa using this, fun i y hy => ?_⟩ (by omega) (ex.trans e2) I2 fun s' H' I' e' => ?_
        · obtain ⟨t, h1, h2⟩ := hT.2 (i + 1) y (by simpa using hy)
          exact ⟨t, by simpa using h1, h2⟩
        · have h1 := h s' H' I' (e2.trans e')
          have e : k + piled (r :: ts) = k + (r.length + 2) + piled ts := by rw [piled_cons]; omega
          rw [e] at h1
          simpa using h1
theorem tuple_reprAt_rp {A : Around} {g : List Code} {pins : List (Addr × Obj)} {σ : St} {H : Hp} {s : Shared} {R : Result → Shared → Prop} {base : Nat} {id : String} {rest : List Value}
    (hcg : (Code.builtin id ⟨.ref a :: rest, []⟩).isGuard = true) (hsb : Sub X n (A.under (.builtin id ⟨.ref a :: rest, []⟩))) (hg : A.guards = some g) (hcl : ∀ b ∈ a :: as, Clear g b) (hna : a ∉ as) (hI : Items X n as H0 xs ts) (hsz : base + (tupleText ts).length ≤ sizeLine)
    (ex : Ext H0 H) (ha : SqT X.K H a xs) (I : Inv X pins σ H s) (herr : ∀ e s', X.xe e s' → R (.error e) s') (hR : ∀ s' H' u, Inv X pins σ H' s' → Ext H H' → R (.ok (.ret (.str (tupleText ts) u))) s') :
    wpOwn (model X.prog X.w) A (.builtin id ⟨.ref a :: rest, []⟩) (Builtin.tupleReprAt base ⟨[.ref a], []⟩) (fun fin s' => match fin with | .done f => R (.ok f) s' | .again c' => c'.quiet = true ∧ codeAny (model X.prog X.w) A c' R s') (fun e s' => R (.error e) s') s := by
  have hca : Clear g a := hcl a (.head _)
  obtain ⟨its, r, hit, hz⟩ := I.tuple ha
  obtain ⟨⟨cls, dd, data, sl⟩, ho, hc, nn, hd⟩ := hit
  simp only at hc hd
  subst hc hd
  have hlen : ts.length = its.toArray.size := by rw [hI.1, r.length]; simp
  have hp := piled_le_tupleText ts
  have hsz0 : (tupleText ts).length ≤ sizeLine := by omega
  rw [tuple_repr_tree, tupleReprUnderWay_eq]
  refine wpOwn_bind (wpOwn_stackTailAny hg (tupGuardF_off _) (tupGuardF_pos _) ?_)
  have hn : (g.any fun c => tupGuardF (.ref a) (c, default)) = false := by
    rw [List.any_eq_false]
    intro c hcm
    rw [tupGuardF_of_clear hca c hcm]
    exact Bool.false_ne_true
  rw [hn]
  refine wpOwn_of_wpAny ?_
  show wpAny _ _ (tupleReprRest base (.ref a)) _ _ s
  unfold tupleReprRest Builtin.Tuple.tupleItemsOf
  refine wpAny_bind (wpAny_bind (wpAny_seqItems ho rfl (wpAny_pure ?_)))
  rw [← Array.forIn_toList]
  refine wpAny_bind (wpAny_mono (tup_rp (Q := fun p s' => p = (⟨#[] ++ ts.toArray, base + piled ts⟩ : (Array Str × Nat)) ∧ ∃ H', Inv X pins σ H' s' ∧ Ext H H') hsb (guards_under_guard hcg hg) (fun b hb => (hcl b (.tail _ hb)).cons (a := a) fun e => hna (e ▸ hb)) xs its ts #[] base s H (by simpa using r) hI (by omega) ex I fun s' H' I' e' => ⟨rfl, H', I', e'⟩) (fun p s' q => ?_) fun e s' q => herr e s' q)
  obtain ⟨rfl, H', I', e'⟩ := q
  refine wpAny_bind (wpAny_mkStr (wpAny_pure ?_) (by simpa [tupleText, hlen] using hsz0))
  have h1 := hR { s' with toks := s'.toks + 1 } H' s'.toks (I'.tok (s'.toks + 1)) e'
  simpa [tupleText, hlen] using h1
/-- a tuple of what is shown so -/
theorem rp_tup (hna : a ∉ as) (hI : Items X n as H0 xs ts) (ha : SqT X.K H0 a xs) : Rp X (n + 1) (a :: as) H0 (.ref a) (tupleText ts) := by
  intro base hb A g pins s σ H u sb hg hcl ex I r
  cases r
  obtain ⟨its, r, hit, hz⟩ := I.tuple (ha.ext ex)
  obtain ⟨o, ho, hc, nn, hd⟩ := hit
  have hu : A.units < cLine := sb.room.units0
  refine wpAny_pyReprUnder_ref (by omega) ?_
  refine wpAny_pyReprObjUnder_twin (twin := "tuple.__repr__.under") ⟨o, ho, hc⟩ F.slot_tuple_repr rfl hu ?_
  exact call_twin_own (F.quiet_tuple_repr_under _) F.entry_tuple_repr_under F.check_tuple_repr_under ⟨o, ho, hc⟩ F.slot_tuple_repr (F.args_tuple_repr_1 _)
    (tuple_reprAt_rp (R := callEnd _ X.xe) (isGuard_tuple_repr_under _) (sub_guard sb _ _ (units_under_tuple_repr_under _ _) (under_tupU _ _).1 (under_tupU _ _).2) hg hcl hna hI hb ex (ha.ext ex) I (fun e s' q => q) fun s' H' u' I' e' => ⟨⟨_, _, rfl⟩, _, _, rfl, rfl, H', I', e'⟩)
/-! ### promises that want to know what the stack guards -/
structure FnG (P : Program) (w : World) (K : PySem.W.Frag) (mg : Str → Option Value) (base : Heap) (CX : CXT) (k : Nat) (f : Addr) (fd : FuncData) (ps : List Str) (G : List Code → List V → Hp → Prop) (sp : Sp) : Prop where
  len : ∀ vs H Q E, sp vs H Q E → vs.length = ps.length
  run : ∀ (A : Around) (g : List Code) (outer : List Env) (s : Shared) (H : Hp) (args : Args) (us : List Value) (vs : List V) (Q : VK) (E : XK), A.guards = some g → G g vs H → Room k A → Env0 P w K mg base A outer s H → BindsTo s fd args (ps.zip us) → Vals vs us → sp vs H Q E →
    codeAny (model P w) A (.call (.ref f) args) (CR CX outer P w H s Q E) s
theorem FnG.imp {P : Program} {w : World} {K : PySem.W.Frag} {mg : Str → Option Value} {base : Heap} {CX : CXT} {j k : Nat} {f : Addr} {fd : FuncData} {ps : List Str} {G : List Code → List V → Hp → Prop} {sp sp' : Sp} (F : FnG P w K mg base CX j f fd ps G sp) (hk : j ≤ k) (h : ∀ vs H Q E, sp' vs H Q E → sp vs H Q E) : FnG P w K mg base CX k f fd ps G sp' :=
  ⟨fun vs H Q E q => F.len vs H Q E (h _ _ _ _ q), fun A g outer s H args us vs Q E hg hG hr he hb hv hs => F.run A g outer s H args us vs Q E hg hG (hr.mono hk) he hb hv (h _ _ _ _ hs)⟩
theorem guards_deeper (A : Around) (env : Env) : (A.deeper env).guards = A.guards := rfl
/-- such a def, by its body -/
theorem fn_g {CX : CXT} {P : Program} {w : World} {K : PySem.W.Frag} {mg : Str → Option Value} {base : Heap} {k : Nat} {f : Addr} {x qual : Str} {params : Arguments} {body : List Stmt} {scope : Scope} {dvs : List V} {kws : List (Str × V)} {fd : FuncData} {N ps : List Str} {G : List Code → List V → Hp → Prop} {sp : Sp}
    (F : FunD K x qual params body scope dvs kws f fd) (S : FnScope N ps scope) (len : ∀ vs H Q E, sp vs H Q E → vs.length = ps.length)
    (hbody : ∀ (cdv : Value) (A : Around) (g : List Code) (outer : List Env) (s : Shared) (H : Hp) (vs : List V) (Q : VK) (E : XK), A.guards = some g → G g vs H → Room k (A.deeper (envOfC qual scope s.heap.objs.size f cdv)) → sp vs H Q E →
      ∃ t, PSs (cxOf CX P w K mg base N qual scope f cdv A outer s H E) body t ∧ t { nx := fun _ H' => Q .non H', rt := Q } (L2.start N vs) H) :
    FnG P w K mg base CX (k + 1) f fd ps G sp := by
  obtain ⟨oc, od, dV, kV, doc, pm, an, cdv, ct, osl, rfl, lk, hcd, _, _⟩ := F.ex
  refine ⟨len, fun A g outer s H args us vs Q E hg hG hr e0 hb r hsp => ?_⟩
  have hl := len _ _ _ _ hsp
  have bsg : ∀ b o, base.get? b = some o → s.heap.get? b = some o := fun b o e => (e0.bs b o e).1
  have KX : K.In s.heap := e0.mod.kin.keeps bsg
  have lim : s.heap.NoLimit := e0.mod.nolimit.keeps bsg
  have hkind : ∀ y ∈ ps.zip us, scope.names.lookup y.1 = some .local ∨ (scope.names.lookup y.1 = some .cell ∧ ((cellsFrom (s.heap.objs.size + 1) scope.names []).lookup y.1).isSome = true) := fun ⟨n, v⟩ hy =>
    (S.par n (List.of_mem_zip hy).1).imp id fun q => ⟨q, PySem.W.cellsFrom_some _ _ _ (.inl q)⟩
  refine codeAny_call_function hr.depth (KX _ _ lk) rfl S.co S.gen rfl (PySem.W.codeRec_of KX hcd) (hb _ _ _ _ ?_)
  refine wpAny_newFunctionEnv_cells S.kind hkind fun env he s1 x => ?_
  subst he
  refine ⟨lim.keeps x.toInCall.keep, codeAny_func ?_⟩
  obtain ⟨t, ht, hq⟩ := hbody cdv A g outer s H vs Q E hg hG (hr.deeper _) hsp
  have I : Inv (cxOf CX P w K mg base N qual scope f cdv A outer s H E) [] (L2.start N vs) H s1 := inv_start S hr.hd e0 hl r x
  refine wpAny_mono (ht.run [] s1 (L2.start N vs) H _ I hq) (fun fl s' hs => ?_) fun e s' hs => hs
  cases fl with
  | ret u =>
    obtain ⟨v, σ', H', J, rv, q⟩ := hs
    exact ⟨v, H', J.os, J.bare, J.base, J.hok, rv, q⟩
  | next =>
    obtain ⟨σ', H', J, q⟩ := hs
    exact ⟨V.non, H', J.os, J.bare, J.base, J.hok, rfl, q⟩
  | brk =>
    obtain ⟨_, _, _, q⟩ := hs
    exact False.elim q
  | cont =>
    obtain ⟨_, _, _, q⟩ := hs
    exact False.elim q
theorem run_fnG {CX : CXT} {k : Nat} {f : Addr} {fd : FuncData} {ps : List Str} {sp : Sp} {G : List Code → List V → Hp → Prop} {E : XK} {A : Around} {g : List Code} {pins : List (Addr × Obj)} {σ : St} {H : Hp} {s : Shared} {Q : VK} {us : List Value} {vs : List V} (F : FnG X.prog X.w X.K X.mg X.base CX k f fd ps G sp) (hg : A.guards = some g) (hG : G g vs H) (sb : Sub X k A) (hb : Binds X.K fd ps []) (hx : Passes CX X E)
    (I : Inv X pins σ H s) (r : Vals vs us) (h : sp vs H Q E) : wpAny (model X.prog X.w) A (call (.ref f) us) (EP X pins σ Q) X.xe s := by
  have e0 : Env0 X.prog X.w X.K X.mg X.base A X.stack s H := by
    have e := I.env0
    exact ⟨by rw [sb.fr]; exact e.frames, e.mod, e.bs, e.bsz, e.funs, e.frf, e.hok, e.bare⟩
  have hl : (us ++ []).length = ps.length := by rw [List.append_nil, ← r.length]; exact F.len _ _ _ _ h
  have b2 := hb s us I.kIn hl
  rw [List.append_nil] at b2
  refine wpAny_call (codeAny_mono (F.run A g X.stack s H ⟨us, []⟩ us vs Q E hg hG sb.room e0 b2 r h) fun r s' hq => ?_)
  cases r with
  | error e => exact hx pins σ H s e s' I hq
  | ok fl =>
    cases fl with
    | ret u => exact I.after hq
    | next => exact False.elim hq
    | brk => exact False.elim hq
    | cont => exact False.elim hq
/-- f(e, ..) where what the stack guards is known -/
def tCallG (G : List Code → List V → Hp → Prop) (g : List Code) (sp : Sp) (E : XK) (t : TA) : TE := fun σ H Q => t σ H fun vs H1 => G g vs H1 ∧ sp vs H1 Q E
theorem pe_callG {CX : CXT} {k : Nat} {f : Addr} {fd : FuncData} {ps : List Str} {sp : Sp} {G : List Code → List V → Hp → Prop} {E : XK} {g : List Code} {x : Str} {p pos : Pos} {e : Expr} {es : List Expr} {t : TA} (F : FnG X.prog X.w X.K X.mg X.base CX k f fd ps G sp) (hgd : X.A.guards = some g) (hr : Room k X.A) (hg : Gl X x) (hm : X.mg x = some (.ref f)) (hk : PySem.W.keepIn X.K (.ref f) = true) (hb : Binds X.K fd ps []) (hx : Passes CX X E)
    (ha : PA X (e :: es) t) (hdb : (x == ("__debug__" : Str)) = false := by decide) (he : starEach (e :: es) X.env = (false, eval e X.env) :: starEach es X.env := by rfl) (hpl : (backTo pos (starEach es X.env)).any (·.1) = false := by rfl) :
    PE X (.Call (.Name x p) (e :: es) [] pos) (tCallG G g sp E t) := by
  refine ⟨fun pins s σ H Q I h => ?_⟩
  refine wpAny_Call_Name_kw (ld_glob I hg hm ?_ hdb)
  refine PySem.W.callWith_K (h₀ := X.base) I.ok.mod.kin hk (thn (ha.run pos pins s σ H _ I h) fun us s1 ⟨vs, H1, I1, r, hG, q⟩ => ⟨I1.kIn, ?_⟩) he hpl
  exact run_fnG F hgd hG ⟨hr, rfl⟩ hb hx I1 r q

/-! ### instances with an own __repr__ -/
def spRp (R : Addr → Str → Hp → Prop) : Sp := fun vs H Q _ => ∃ a t, vs = [.ref a] ∧ R a t H ∧ ∀ H', Ext H H' → Q (.str t) H'
theorem rp_ins {CX : CXT} {C f : Addr} {fd : FuncData} {ps : List Str} {R : Addr → Str → Hp → Prop} {G : List Code → List V → Hp → Prop} {E : XK} {dx : Addr} {fs : List (Str × V)} (F : FnG X.prog X.w X.K X.mg X.base CX n f fd ps G (spRp R))
    (hs : PySem.W.findIn X.K (.ref C) "__repr__" = some (some (.ref f))) (hf : PySem.W.isFn X.K (.ref f) = true) (hb : Binds X.K fd ps []) (hx : Passes CX X E) (ha : H0 a = some (.ins C dx fs)) (hR : ∀ H, Ext H0 H → R a t H) (hG : ∀ g H, (∀ b ∈ as, Clear g b) → Ext H0 H → G g [.ref a] H) : Rp X n as H0 (.ref a) t := by
  intro base hbs A g pins s σ H u sb hg hcl ex I r
  cases r
  obtain ⟨mA, J, _⟩ := ins_get I.hok (ex _ _ ha)
  obtain ⟨od, J, _⟩ := J.look
  have hu : A.units < cLine := sb.room.units0
  refine wpAny_pyReprUnder_ref (by omega) ?_
  unfold pyReprObjUnder pyReprObjBy
  refine wpAny_bind (wpAny_cRoomFor hu ?_)
  refine wpAny_bind (wpAny_bind (J.type.here ((PySem.W.looks_findIn I.kIn hs).here ?_)))
  simp only [callSpecialIfBoundBy?, bindSpecialIfBound?]
  have fin : wpAny (model X.prog X.w) A (call (.ref f) [.ref a] >>= fun v => pure (some v)) (fun r s' => wpAny (model X.prog X.w) A (match r with
      | some r => (do if ← isInstance r (.type "str") then pure r else raiseError "TypeError" s!"__repr__ returned non-string (type {← typeNameOf r})")
      | none => unsupported "repr:special-get-raises") (fun v s' => ∃ x u, v = .str x u ∧ x = t ∧ ∃ H', Inv X pins σ H' s' ∧ Ext H H') X.xe s') X.xe s := by
    refine wpAny_bind (wpAny_mono (run_fnG (Q := fun v H' => v = .str t ∧ Ext H H') F hg (hG g H hcl ex) sb hb hx I (.cons rfl .nil) ⟨a, t, rfl, hR H ex, fun H' e => ⟨rfl, e⟩⟩) (fun v s' q => wpAny_pure ?_) fun _ _ z => z)
    obtain ⟨v', H', I', r', rfl, e'⟩ := q
    obtain ⟨tk, rfl⟩ := r'
    exact wpAny_bind (wpAny_isInstance (T := "str") (b := true) rfl isSubtype_str_str (wpAny_pure ⟨_, _, rfl, rfl, H', I', e'⟩))
  refine wpAny_bind (wpAny_holding (wpAny_bind (wpAny_bind (wpAny_bind (J.type.here ((PySem.W.looks_findIn I.kIn hs).here ?_))))))
  refine wpAny_bind (wpAny_askSetting (wpAny_ite ?_))
  split
  · exact wpAny_bind ((PySem.W.bind_fn I.kIn _ (beq_iff_eq.mp hf)).here (wpAny_pure (by exact fin)))
  · exact wpAny_tryCatch (wpAny_bind ((PySem.W.bind_fn I.kIn _ (beq_iff_eq.mp hf)).here (wpAny_pure (by exact fin))))
end
end RP
/-! E7: != of equal nested data; repr(l), {l!r}, the empty dict shown; str(x) by an own __str__. -/
namespace GQN
open PySem PySem.SeqAt GQ
open AutoSeq1 (wpAny_loadPart')
open MeetsSeq MeetsSeq2 MeetsSeq3 SeqRoads2
section
variable {prog : Program} {w : World} {A : Around} {R : Result → Shared → Prop}
theorem ne_loopG (l b : Addr) (N : Nat) (I : Nat → Shared → Prop) (hl : ListI prog w A (fun e s' => R (.error e) s') l b N I)
    (fin : ∀ s, I N s → R (.ok (.ret (.bool false))) s) (k : Nat) :
    ∀ i : Nat, N - i = k → i ≤ N → ∀ s, I i s →
      wpAny (model prog w) A.in1 (Builtin.«list.__eq__.loop» ⟨[.ref l, .ref b, rawInt i, rawInt 3], []⟩) (FinOf prog w A R) (fun e s' => R (.error e) s') s := by
  induction k with
  | zero =>
    intro i hk hi s h
    obtain ⟨items, items2, n, n2, hl1, hb1, hs1, hs2, _⟩ := hl _ _ h
    have hi' : i = N := by omega
    have hR : R (.ok (.ret (.bool false))) s := fin s (hi' ▸ h)
    obtain ⟨hp, g, d, tk, os⟩ := s
    wp_walk using wpAny_loadPart' hl1, wpAny_loadPart' hb1
    have hi1 : items[((i : Nat) : Int).toNat]? = none := by simp; omega
    have hi2 : items2[((i : Nat) : Int).toNat]? = none := by simp; omega
    rw [hi1, hi2]
    wp_walk using wpAny_loadPart' hl1, wpAny_loadPart' hb1
    show R (.ok (.ret (.bool (items.size != items2.size)))) _
    rw [hs1, hs2]
    simpa using hR
  | succ k ih =>
    intro i hk hi s h
    obtain ⟨items, items2, n, n2, hl1, hb1, hs1, hs2, turn⟩ := hl _ _ h
    have hlt : i < items.size := by omega
    have hlt2 : i < items2.size := by omega
    have ht := turn hlt hlt2
    obtain ⟨hp, g, d, tk, os⟩ := s
    wp_walk using wpAny_loadPart' hl1, wpAny_loadPart' hb1
    have hi1 : items[((i : Nat) : Int).toNat]? = some items[i] := by simp [hlt]
    have hi2 : items2[((i : Nat) : Int).toNat]? = some items2[i] := by simp [hlt2]
    have hc : ((i : Int) + 1) = ((i + 1 : Nat) : Int) := by omega
    rw [hi1, hi2]
    refine wpAny_bind (wpAny_mono ht (fun r s2 h2 => ?_) fun _ _ x => x)
    obtain ⟨hr, h2⟩ := h2
    subst hr
    have hrec := ih (i + 1) (by omega) (by omega) s2 h2
    obtain ⟨hp2, g2, d2, tk2, os2⟩ := s2
    wp_walk
    rw [hc]
    exact ⟨plainId_quiet plain_eq_loop _, codeAny_builtin entry_eq_loop (by
      rw [Around.under_plainId plain_eq_loop _]
      exact hrec)⟩
theorem list_neG (l b : Addr) (N : Nat) (I : Nat → Shared → Prop) (hl : ListI prog w A (fun e s' => R (.error e) s') l b N I)
    (fin : ∀ s, I N s → R (.ok (.ret (.bool false))) s) {s : Shared} (h : I 0 s) :
    wpAny (model prog w) A.in1 (Builtin.«list.__ne__» ⟨[.ref l, .ref b], []⟩) (FinOf prog w A R) (fun e s' => R (.error e) s') s := by
  obtain ⟨items, items2, n, n2, hl1, hb1, hs1, hs2, _⟩ := hl _ _ h
  have hrec := ne_loopG (A := A) (R := R) l b N I hl fin _ 0 rfl (Nat.zero_le _) s h
  obtain ⟨hp, g, d, tk, os⟩ := s
  have f3 := AutoSeq1.sub_list_list
  have hne : ¬ (items.size != items2.size) = true := by simp [hs1, hs2]
  wp_walk using wpAny_loadPart' hl1, wpAny_loadPart' hb1
  exact ⟨plainId_quiet plain_eq_loop _, codeAny_builtin entry_eq_loop (by
    rw [Around.under_plainId plain_eq_loop _]
    exact hrec)⟩
theorem tuple_neG (l b : Addr) (items items2 : Array Value) (n n2 : Nat) (dd dd2 : Option Addr) (sl sl2 : Array (Option Value)) (hsz : items.size = items2.size) (I : Nat → Shared → Prop)
    (turn : ∀ i (h1 : i < items.size) (h2 : i < items2.size) s, I i s → wpAny (model prog w) A.in1 (eqBool items[i] items2[i]) (fun r s' => r = true ∧ I (i + 1) s') (fun e s' => R (.error e) s') s)
    (fin : ∀ s, I items.size s → R (.ok (.ret (.bool false))) s) {s : Shared} (hl1 : s.heap.get? l = some { cls := .type "tuple", dict := dd, data := .seq items n, slots := sl }) (hb1 : s.heap.get? b = some { cls := .type "tuple", dict := dd2, data := .seq items2 n2, slots := sl2 }) (h : I 0 s) :
    wpAny (model prog w) A.in1 (Builtin.«tuple.__ne__» ⟨[.ref l, .ref b], []⟩) (FinOf prog w A R) (fun e s' => R (.error e) s') s := by
  have f2 := AutoSeq1.sub_tuple_tuple
  have hZ : (items.toList.zip items2.toList).length = items.size := by simp [hsz]
  have h0 := h
  obtain ⟨hp, g, d, tk, os⟩ := s
  wp_walk using wpAny_loadPart' hl1, wpAny_loadPart' hb1, wpAny_forIn_list _ (fun rest b s' => b.1 = none ∧ ∃ i, rest = (items.toList.zip items2.toList).drop i ∧ i ≤ items.size ∧ I i s') _
  case turn =>
    rintro ⟨y, x⟩ rest b s' ⟨hb', i, hz, hi, hI⟩
    have hlt : i < (items.toList.zip items2.toList).length := by
      rcases Nat.lt_or_ge i (items.toList.zip items2.toList).length with h' | h'
      · exact h'
      · rw [List.drop_of_length_le h'] at hz; cases hz
    have h1 : i < items.size := hZ ▸ hlt
    have h2 : i < items2.size := hsz ▸ h1
    rw [List.drop_eq_getElem_cons hlt] at hz
    injection hz with hyx hrest
    have hy : y = items[i] := by have := congrArg Prod.fst hyx; simpa using this
    have hx : x = items2[i] := by have := congrArg Prod.snd hyx; simpa using this
    subst hy hx
    refine wpAny_bind (wpAny_mono (turn i h1 h2 s' hI) (fun r s2 q2 => ?_) fun _ _ x => x)
    obtain ⟨hr, q2⟩ := q2
    subst hr
    wp_walk
    exact ⟨rfl, i + 1, hrest, h1, q2⟩
  case fin =>
    rintro ⟨b1, b2⟩ s' ⟨hb', i, hz, hi, hI⟩
    simp only at hb'
    subst hb'
    have hge : items.size ≤ i := by
      rcases Nat.lt_or_ge i (items.toList.zip items2.toList).length with h' | h'
      · rw [List.drop_eq_getElem_cons h'] at hz; cases hz
      · exact hZ ▸ h'
    have hi' : i = items.size := by omega
    have hR : R (.ok (.ret (.bool false))) s' := fin s' (hi' ▸ hI)
    wp_walk
    simpa [Builtin.Tuple.tupleCompareSizes, hsz] using hR
  case h =>
    exact ⟨rfl, 0, rfl, Nat.zero_le _, h0⟩
end
end GQN
namespace RP
open PySem PySem.Spec PyProof.Rows L2 Builtin Builtin.List GQ
section
variable {X : Cx} {n m : Nat} {D : Eqv}
/-- x != y as an expression, the two equal -/
def rNeG (D : Eqv) : R2 := fun x y H Q => D x y H ∧ ∀ H', Ext H H' → Q (.bl false) H'
theorem op_neList (hD : Mon D) (h : EqG X n D) (hr : Room (n + 1) X.A) : OpR X (compareOp .NotEq) (rNeG (DList D)) := by
  intro pins s σ H x y v u Q I rx ry hq
  obtain ⟨⟨a, b, xs, ys, rfl, rfl, ha, hb, p⟩, q⟩ := hq
  cases rx
  cases ry
  show wpAny (model X.prog X.w) X.A (richCompare .NotEq (.ref a) (.ref b)) (EP X pins σ Q) X.xe s
  have hl : ListI X.prog X.w X.A X.xe a b xs.length (fun _ s' => LoopI X pins σ H s') := fun i s' q => by
    obtain ⟨H1, I1, e1⟩ := id q
    obtain ⟨z, its, k, r, e⟩ := I1.hok a _ (e1 _ _ ha)
    obtain ⟨z2, its2, k2, r2, e2⟩ := I1.hok b _ (e1 _ _ hb)
    refine ⟨its.toArray, its2.toArray, k, k2, e, e2, by rw [List.size_toArray, ← r.length], by rw [List.size_toArray, ← r2.length, ← p.1], fun h1 h2 => ?_⟩
    exact turnG hD h ⟨hr, rfl⟩ p r r2 i h1 h2 s' q
  obtain ⟨z, its, k, r, e⟩ := I.hok a _ ha
  obtain ⟨z2, its2, k2, r2, e2⟩ := I.hok b _ hb
  refine wpAny_richCompare_same_room (op := .NotEq) ⟨_, e, rfl⟩ ⟨_, e2, rfl⟩ F.slot_list_ne (call_here F.slot_list_ne ⟨_, e, rfl⟩ F.entry_list_ne (F.args_list_ne_2 _ _) ?_) hr.units0
  exact GQN.list_neG (R := wants (fun v s' => v ≠ .notImplemented ∧ EP X pins σ Q v s') X.xe) a b xs.length _ hl (fun s' q' => ⟨(fun x => nomatch x), let ⟨H', I', e'⟩ := q'; ⟨.bl false, H', I', rfl, q H' e'⟩⟩) ⟨H, I, Ext.rfl'⟩
theorem op_neTup (hD : Mon D) (h : EqG X n D) (hr : Room (n + 1) X.A) : OpR X (compareOp .NotEq) (rNeG (DTup X.K D)) := by
  intro pins s σ H x y v u Q I rx ry hq
  obtain ⟨⟨a, b, xs, ys, rfl, rfl, ha, hb, p⟩, q⟩ := hq
  cases rx
  cases ry
  show wpAny (model X.prog X.w) X.A (richCompare .NotEq (.ref a) (.ref b)) (EP X pins σ Q) X.xe s
  obtain ⟨its, r, e, z⟩ := I.tuple ha
  obtain ⟨its2, r2, e2, z2⟩ := I.tuple hb
  have hsz : its.toArray.size = its2.toArray.size := by rw [List.size_toArray, List.size_toArray, ← r.length, ← r2.length]; exact p.1
  obtain ⟨⟨cls, dd, data, sl⟩, ho, hc, n1, hd⟩ := e
  obtain ⟨⟨cls2, dd2, data2, sl2⟩, ho2, hc2, n2, hd2⟩ := e2
  simp only at hc hd hc2 hd2
  subst hc hd hc2 hd2
  refine wpAny_richCompare_same_room (op := .NotEq) ⟨_, ho, rfl⟩ ⟨_, ho2, rfl⟩ F.slot_tuple_ne (call_here F.slot_tuple_ne ⟨_, ho, rfl⟩ F.entry_tuple_ne (F.args_tuple_ne_2 _ _) ?_) hr.units0
  exact GQN.tuple_neG (R := wants (fun v s' => v ≠ .notImplemented ∧ EP X pins σ Q v s') X.xe) a b _ _ _ _ _ _ _ _ hsz (fun _ s' => LoopI X pins σ H s') (fun i h1 h2 s' q => turnG hD h ⟨hr, rfl⟩ p r r2 i h1 h2 s' q)
    (fun s' q' => ⟨(fun x => nomatch x), let ⟨H', I', e'⟩ := q'; ⟨.bl false, H', I', rfl, q H' e'⟩⟩) ho ho2 ⟨H, I, Ext.rfl'⟩

/-! ### repr(l), {l!r} -/
def rRepr (X : Cx) (n : Nat) : List V → Hp → VK → Prop := fun vs H Q => ∃ a xs ts as, vs = [.ref a] ∧ H a = some (.lst xs) ∧ xs ≠ [] ∧ a ∉ as ∧ Items X n as H xs ts ∧ (listText ts).length ≤ sizeLine ∧ ∀ H', Ext H H' → Q (.str (listText ts)) H'
theorem call_repr (hg : X.A.guards = some []) (hr : Room (n + 3) X.A) : CallR X (.builtin "repr") (rRepr X n) := by
  intro pins s σ H xs us Q I r h
  obtain ⟨a, ys, ts, as, rfl, ha, hne, hna, hI, hz, q⟩ := h
  cases r with
  | cons r1 r2 =>
    cases r2
    cases r1
    exact call_repr_list ⟨hr, rfl⟩ hg (fun b _ => Clear.nil b) hna hI hne hz Ext.rfl' ha I fun s' H' u I' e' => ⟨.str (listText ts), H', I', ⟨u, rfl⟩, q H' e'⟩
/-- {e!r}, e a list of flat values -/
def tFmtL (X : Cx) (g : List Code) (te : TE) : TE := fun σ H Q => te σ H fun x H1 => ∃ a xs ts, x = .ref a ∧ H1 a = some (.lst xs) ∧ xs ≠ [] ∧ Clear g a ∧ Items X 0 [] H1 xs ts ∧ (listText ts).length ≤ sizeLine ∧ ∀ H', Ext H1 H' → Q (.str (listText ts)) H'
theorem pe_fmtRl {e : Expr} {te : TE} {pos : Pos} {g : List Code} (hg : X.A.guards = some g) (hr : Room 2 X.A) (he : PE X e te) : PE X (.FormattedValue e 114 none pos) (tFmtL X g te) := by
  refine ⟨fun pins s σ H Q I h => ?_⟩
  refine wpAny_FormattedValue_repr (thn (he.run pins s σ H _ I h) fun v s1 hv => ?_)
  obtain ⟨x, H1, I1, r1, a, xs, ts, rfl, ha, hne, hcl, hI, hz, q⟩ := hv
  cases r1
  obtain ⟨_, its, na, r, oa⟩ := I1.hok a _ ha
  have hu : X.A.units < cLine := hr.units0
  unfold pyReprObj
  refine wpAny_bind (wpAny_cRoomFor hu ?_)
  refine wpAny_bind (wpAny_specialOf (name := Str.ofString "__repr__") ⟨_, oa, rfl⟩ F.slot_list_repr.lookup ?_)
  refine wpAny_bind (m := callSpecialIfBound? (.ref a) (Str.ofString "__repr__")) (wpAny_callSpecialIfBound?_slot (name := Str.ofString "__repr__") ⟨_, oa, rfl⟩ F.slot_list_repr ?_)
  refine wpAny_call (codeAny_call_builtin F.slot_list_repr.plain F.entry_list_repr (F.slot_list_repr.check _ _ _ _ _ _ _ _ ⟨_, oa, rfl⟩ (F.args_list_repr_1 _)
    (list_reprAt_rp (base := 0) (R := callEnd _ _) (⟨hr.mono (by omega), rfl⟩ : Sub X 1 X.A) hg (as := []) (fun b hb => by rcases List.mem_cons.mp hb with rfl | hb; exact hcl; cases hb) (by simp) hI hne (by omega) Ext.rfl' ha I1 (fun e s' q => q) fun s' H' u I' e' => ?_)))
  refine wpAny_bind (wpAny_isInstance (T := "str") (b := true) rfl isSubtype_str_str (wpAny_pure ?_))
  exact wpAny_formatField_str ⟨.str (listText ts), H', I', ⟨_, rfl⟩, q H' e'⟩ ⟨.str (listText ts), H', I'.tok _, ⟨_, rfl⟩, q H' e'⟩ hz
/-- the empty dict -/
theorem rp_dict {as : List Addr} {H0 : Hp} {a : Addr} (ha : H0 a = some (.dK [])) : Rp X 1 (a :: as) H0 (.ref a) "{}" := by
  intro base hb A g pins s σ H u sb hg hcl ex I r
  cases r
  obtain ⟨z, y, vs, r, o, es, ep, ho, hc, hd, hk, hp, hn⟩ := I.hok a _ (ex _ _ ha)
  cases r
  have he : es.toList = [] := by
    cases h : es.toList with
    | nil => rfl
    | cons x l => rw [h] at hp; cases hp
  have hu : A.units + (0 + 1) < cLine := by have := (sb.in1).room.units0; simpa using this
  refine wpAny_pyReprUnder_ref (by omega) ?_
  exact wpAny_pyReprObjUnder_dictK (ps := []) (d := 0) (as := []) (h₀ := s.heap) ho hc.1 hd y (by simp) (by rw [he]; exact .nil) hg (fun b q => hcl b (by rcases List.mem_cons.mp q with rfl | q; exact .head _; cases q)) hu (fun b o e => e) (fun h' u tk hk' => ⟨_, _, rfl, rfl, H, I.kept hk', Ext.rfl'⟩) hb
end
end RP
/-! E8: sets of a few texts: len(set(xs)), {x for x in xs}. -/
namespace SN
open PySem PySem.Spec PyProof.Rows
/-- the texts, each once -/
def dd : List Str → List Str := fun xs => xs.foldl (fun acc x => if x ∈ acc then acc else acc ++ [x]) []
def memS (xs : List Str) (k : Str) : Bool := decide (k ∈ xs)
theorem dd_snoc (xs : List Str) (x : Str) : dd (xs ++ [x]) = if x ∈ dd xs then dd xs else dd xs ++ [x] := by
  unfold dd
  rw [List.foldl_append]
  rfl
theorem rev_ind {α : Type} {p : List α → Prop} (h0 : p []) (h1 : ∀ xs x, p xs → p (xs ++ [x])) (xs : List α) : p xs := by
  have h : ∀ n (xs : List α), xs.length = n → p xs := fun n => by
    induction n with
    | zero => intro xs h; rw [List.length_eq_zero_iff.mp h]; exact h0
    | succ n ih =>
      intro xs h
      have hne : xs ≠ [] := fun z => by rw [z] at h; cases h
      rw [← List.dropLast_concat_getLast hne]
      exact h1 _ _ (ih _ (by rw [List.length_dropLast, h]; rfl))
  exact h _ xs rfl
theorem mem_dd {xs : List Str} : ∀ {k : Str}, k ∈ dd xs ↔ k ∈ xs := by
  refine rev_ind (p := fun xs => ∀ {k : Str}, k ∈ dd xs ↔ k ∈ xs) (by simp [dd]) (fun xs x ih k => ?_) xs
  rw [dd_snoc]
  by_cases h : x ∈ dd xs
  · rw [if_pos h, ih, List.mem_append, List.mem_singleton]
    constructor
    · exact .inl
    · rintro (h1 | rfl)
      · exact h1
      · exact ih.mp h
  · rw [if_neg h, List.mem_append, List.mem_append, ih]
theorem dd_nodup (xs : List Str) : (dd xs).Nodup := by
  refine rev_ind (p := fun xs => (dd xs).Nodup) (by simp [dd]) (fun xs x ih => ?_) xs
  rw [dd_snoc]
  by_cases h : x ∈ dd xs
  · rw [if_pos h]; exact ih
  · rw [if_neg h, List.nodup_append]
    refine ⟨ih, by simp, fun a ha b hb => ?_⟩
    rw [List.mem_singleton] at hb
    rw [hb]
    exact fun e => h (e ▸ ha)
theorem dd_le (xs : List Str) : (dd xs).length ≤ xs.length := by
  refine rev_ind (p := fun xs => (dd xs).length ≤ xs.length) (by simp [dd]) (fun xs x ih => ?_) xs
  rw [dd_snoc]
  by_cases h : x ∈ dd xs
  · rw [if_pos h, List.length_append]; omega
  · rw [if_neg h, List.length_append, List.length_append, List.length_singleton]; omega
theorem dd_of_nodup {xs : List Str} : xs.Nodup → dd xs = xs := by
  refine rev_ind (p := fun xs => xs.Nodup → dd xs = xs) (fun _ => rfl) (fun xs x ih h => ?_) xs
  obtain ⟨h1, _, h3⟩ := List.nodup_append.mp h
  rw [dd_snoc, ih h1, if_neg]
  exact fun hm => h3 x hm x (by simp) rfl
theorem dd_len_iff (xs : List Str) : (dd xs).length = xs.length ↔ xs.Nodup := by
  constructor
  · refine rev_ind (p := fun xs => (dd xs).length = xs.length → xs.Nodup) (fun _ => List.nodup_nil) (fun xs x ih h => ?_) xs
    rw [dd_snoc] at h
    have hl := dd_le xs
    by_cases hx : x ∈ dd xs
    · rw [if_pos hx, List.length_append, List.length_singleton] at h; omega
    · rw [if_neg hx, List.length_append, List.length_append, List.length_singleton] at h
      rw [List.nodup_append]
      refine ⟨ih (by omega), by simp, fun a ha b hb => ?_⟩
      rw [List.mem_singleton] at hb
      rw [hb]
      exact fun e => hx (mem_dd.mpr (e ▸ ha))
  · intro h
    rw [dd_of_nodup h]
section
variable {prog : Program} {w : World} {A : Around} {R : Result → Shared → Prop} {I : Addr} {fp wr : List Addr} {G : Array GenState → Array GenState → Prop} {n : Nat} {P : Nat → Value → Prop} {St : Nat → Shared → Prop}
theorem take_get {xs : List Str} {i : Nat} (h : i < xs.length) : xs.take (i + 1) = xs.take i ++ [xs.getD i Str.empty] := by
  rw [List.take_add_one, List.getElem?_eq_getElem h]
  simp [List.getD, List.getElem?_eq_getElem h]
theorem loopStrN (W : WalksS prog w A.in1 I fp wr G n P St) (S : Addr) (hSf : S ∉ fp) (xs : List Str) (hsz : xs.length = n) (hb : n + 1 < scanBound)
    (hval : ∀ i v, P i v → ∃ t, v = .str (xs.getD i Str.empty) t) :
    ∀ (k i : Nat) (s : Shared), n - i = k → i ≤ n → St i s →
      s.heap.SetOf (PySem.strKind prog w) S (memS (xs.take i)) (dd (xs.take i)).length →
      (∀ s', Moved (S :: wr) G s s' → s'.heap.SetOf (PySem.strKind prog w) S (memS (xs.take n)) (dd (xs.take n)).length → R (.ok (.ret .none)) s') →
      codeAny (model prog w) A (.builtin "set.update.loop" ⟨[.ref S, .ref I], []⟩) R s := by
  have hSw : S ∉ wr := fun h => hSf (W.sub _ h)
  have hsub : ∀ b ∈ wr, b ∈ S :: wr := fun b hb => List.mem_cons_of_mem _ hb
  intro k
  induction k with
  | zero =>
    intro i s hk hi hst hS hR
    have hin : i = n := by omega
    subst hin
    refine codeAny_builtin PyProof.Rows.F.entry_set_update_loop ?_
    rw [Around.under_plainId PyProof.Rows.F.plain_set_update_loop _]
    show wpAny _ A.in1 (pyNext (.ref I) >>= _) _ _ s
    refine wpAny_bind (W.done s _ _ hst fun s' hm => ?_)
    show wpAny _ A.in1 (ret Value.none) _ _ s'
    exact wpAny_pure (hR s' (hm.mono hsub) (by
      obtain ⟨o, es, ep, t, ho, rest⟩ := hS
      exact ⟨o, es, ep, t, hm.heap S _ hSw ho, rest⟩))
  | succ k ih =>
    intro i s hk hi hst hS hR
    have hlt : i < n := by omega
    refine codeAny_builtin PyProof.Rows.F.entry_set_update_loop ?_
    rw [Around.under_plainId PyProof.Rows.F.plain_set_update_loop _]
    show wpAny _ A.in1 (pyNext (.ref I) >>= _) _ _ s
    refine wpAny_bind (W.item i s _ _ hlt hst fun v s' hP hst' hm => ?_)
    obtain ⟨t, rfl⟩ := hval i v hP
    have hS' : s'.heap.SetOf (PySem.strKind prog w) S (memS (xs.take i)) (dd (xs.take i)).length := by
      obtain ⟨o, es, ep, tb, ho, rest⟩ := hS
      exact ⟨o, es, ep, tb, hm.heap S _ hSw ho, rest⟩
    show wpAny _ A.in1 (holding [Value.str (xs.getD i Str.empty) t] (setAdd S (.str (xs.getD i Str.empty) t)) >>= _) _ _ s'
    refine wpAny_bind (wpAny_holding ?_)
    unfold setAdd
    refine wpAny_holding ?_
    refine wpAny_bind ((PySem.strKind prog w).pyHash (k := xs.getD i Str.empty) (strKind_is _ _ _ _) ?_)
    have hroom : (dd (xs.take i)).length + 1 < scanBound := by
      have h1 := dd_le (xs.take i)
      have h2 : (xs.take i).length ≤ i := by rw [List.length_take]; omega
      omega
    refine wpAny_setAddHashed_of (knd := PySem.strKind prog w) (s := { s' with toks := s'.toks + 1 }) (strKind_is _ _ _ _) rfl hS' hroom fun h' hsb hS2 => ?_
    have hSi : h'.SetOf (PySem.strKind prog w) S (memS (xs.take (i + 1))) (dd (xs.take (i + 1))).length := by
      refine SetOf_congr hS2 (fun k' => ?_) ?_
      · rw [take_get (hsz ▸ hlt)]
        simp only [memS, List.mem_append, List.mem_singleton]
        rw [Bool.eq_iff_iff]
        simp
      · rw [take_get (hsz ▸ hlt), dd_snoc]
        by_cases hm : xs.getD i Str.empty ∈ dd (xs.take i)
        · have hm2 : memS (xs.take i) (xs.getD i Str.empty) = true := decide_eq_true (mem_dd.mp hm)
          rw [if_pos hm, if_pos hm2]
        · have hm2 : memS (xs.take i) (xs.getD i Str.empty) = false := decide_eq_false (fun q => hm (mem_dd.mpr q))
          rw [if_neg hm, List.length_append, if_neg (by rw [hm2]; exact Bool.false_ne_true)]
          rfl
    refine wpAny_pure ⟨plainId_quiet PyProof.Rows.F.plain_set_update_loop _, ih (i + 1) _ (by omega) hlt (W.frame _ s' _ _ hst' (Nat.le_succ _) fun b hb o e => ?_) hSi fun s'' hm'' hS'' => ?_⟩
    · rw [hsb.2 b (fun h : b = S => hSf (by rw [← h]; exact hb))]; exact e
    · refine hR s'' (Moved.trans W.gtrans ((hm.mono hsub).then_heap (Nat.le_succ _) fun b o hb e => ?_) hm'') hS''
      rw [hsb.2 b (fun h : b = S => hb (by rw [h]; exact List.mem_cons_self))]; exact e
end
section
variable {prog : Program} {w : World} {A : Around} {E : Value → Shared → Prop} {s : Shared}
theorem call_set_listN {l : Addr} {items : Array Value} {xs : List Str} {Q : Value → Shared → Prop}
    (hh : A.handled = none) (hl : s.heap.IsList l items) (hi : PyProof.Rows.StrsAre items.toList xs) (hb : xs.length + 1 < scanBound)
    (h : ∀ (h' : Heap) (tk : Nat), h'.SetOf (PySem.strKind prog w) s.heap.objs.size (memS (xs.take items.size)) (dd (xs.take items.size)).length →
      (∀ b o, b < s.heap.objs.size → s.heap.get? b = some o → h'.get? b = some o) → Q (.ref s.heap.objs.size) { s with heap := h', toks := tk }) :
    wpAny (model prog w) A (call (.type "set") [.ref l]) Q E s := by
  obtain ⟨c, tl, hmro⟩ := PySem.F.called_set.mro
  have hmade := PySem.F.called_set.made
  have hsub := PySem.F.called_set.sub
  refine wpAny_call (codeAny_of_tree ?_)
  show wpAny _ _ (callAny (.type "set") _) _ _ _
  refine wpAny_pure ⟨Code.quiet_builtin _ (by decide +kernel), codeAny_builtin PySem.F.entry_type_call ?_⟩
  rw [Around.under_plain (weight_type_call_type "set" [.ref l] []) rfl]
  have h1 := PySem.F.called_set.notType
  have h2 := PySem.F.called_set.canCreate
  have hct := PySem.F.typeCall_set_1 (.ref l)
  repeat (any_goals (first | assumption | wp_step))

  refine codeAny_mono (code_set_new_1 (.ref l) (E := E) (Q₁ := fun obj s₁ => ∃ led : Bool, obj = .ref s.heap.objs.size ∧ s₁ = { s with heap := s.heap.push { cls := .type "set", dict := none, data := .set #[] 0 (.fresh 0 0 led) } }) fun led => ⟨led, rfl, rfl⟩) fun r s₁ hr => ?_
  cases r with
  | error e => exact hr
  | ok fl =>
    cases fl with
    | ret obj =>
      obtain ⟨led, rfl, rfl⟩ := hr
      have hS : (s.heap.push { cls := .type "set", dict := none, data := .set #[] 0 (.fresh 0 0 led) }).get? s.heap.objs.size = some { cls := .type "set", dict := none, data := .set #[] 0 (.fresh 0 0 led) } := Heap.get?_push_size _ rfl
      have hT : Shared.TypeIs { s with heap := s.heap.push { cls := .type "set", dict := none, data := .set #[] 0 (.fresh 0 0 led) } } (.ref s.heap.objs.size) "set" := ⟨_, hS, rfl⟩
      have hli := PySem.F.called_set.init.lookup
      have hbi := PySem.F.called_set.init.bind (.ref s.heap.objs.size)
      repeat (any_goals (first | assumption | wp_step))

      refine codeAny_mono (codeAny_call_builtin (R := wants (fun r s₂ => r = .none ∧ ∃ h' tk, s₂ = { s with heap := h', toks := tk } ∧
          h'.SetOf (PySem.strKind prog w) s.heap.objs.size (memS (xs.take items.size)) (dd (xs.take items.size)).length ∧
          (∀ b o, b < s.heap.objs.size → s.heap.get? b = some o → h'.get? b = some o)) E) PySem.F.called_set.init.plain PySem.F.entry_set_init (check_set_init_1 hT ?_)) fun r₂ s₂ hr₂ => ?_
      · obtain ⟨ol, hol, hcl, nl, hdl⟩ := hl
        obtain ⟨ocls, odict, odata, oslots⟩ := ol
        simp only at hcl hdl
        subst hcl; subst hdl
        have hol' : (s.heap.push { cls := .type "set", dict := none, data := .set #[] 0 (.fresh 0 0 led) }).get? l = some { cls := .type "list", dict := odict, data := .seq items nl, slots := oslots } := Heap.get?_push_of_some _ hol
        have hsls := PySem.F.sub_list_set
        have hslf := PySem.F.sub_list_frozenset
        have hne : (Value.type "list" == Value.type "dict") = false := by decide
        have hl1 : (s.heap.push { cls := .type "set", dict := none, data := .set #[] 0 (.fresh 0 0 led) }).IsList l items := ⟨_, hol', rfl, nl, rfl⟩
        unfold Builtin.«set.__init__» noKeywords Builtin.Frozenset.updateFrom
        generalize hPI : pyIter = PI
        wp_walk
        subst hPI

        refine wpAny_pyIter_list hl1 ?_
        refine wpAny_bind (wpAny_runValue ?_)
        have hlS : l < s.heap.objs.size := Heap.lt_size hol
        have hh3 : A.in1.in1.in1.handled = none := by simp [hh]
        have hneI : l ≠ (s.heap.push { cls := .type "set", dict := none, data := .set #[] 0 (.fresh 0 0 led) }).objs.size := by
          rw [Heap.size_push]; exact Nat.ne_of_lt (Nat.lt_succ_of_lt hlS)
        have hSf : s.heap.objs.size ∉ [(s.heap.push { cls := .type "set", dict := none, data := .set #[] 0 (.fresh 0 0 led) }).objs.size, l] := by
          rw [Heap.size_push]; simp only [List.mem_cons, List.mem_singleton, List.not_mem_nil, or_false, not_or]
          exact ⟨Nat.ne_of_lt (Nat.lt_succ_self _), Nat.ne_of_gt hlS⟩
        have hsz : xs.length = items.size := by rw [← StrsAre.len_eq hi, Array.length_toList]
        have hval : ∀ (i : Nat) (v : Value), items[i]? = some v → ∃ t, v = .str (xs.getD i Str.empty) t := fun i v hv => SS.strs_at hi i v (by rw [Array.getElem?_toList]; exact hv)
        refine loopStrN ((Walks.list hh3 _ l hneI items).toS) s.heap.objs.size
          hSf xs hsz (by rw [← hsz]; exact hb) hval (items.size - 0) 0 _ (by omega) (Nat.zero_le _)
          ⟨⟨_, Heap.get?_push_size _ rfl, rfl, rfl⟩, (hl1.push _)⟩ ?hS0 ?hR
        case hS0 =>
          have hget : ((s.heap.push { cls := .type "set", dict := none, data := .set #[] 0 (.fresh 0 0 led) }).push { cls := .type "list_iterator", data := .fields #[.ref l, .int 0 0] }).get? s.heap.objs.size
              = some { cls := .type "set", dict := none, data := .set #[] 0 (.fresh 0 0 led) } := Heap.get?_push_of_some _ hS
          exact PyProof.Rows.SetOf_congr ((PyProof.Rows.setObjOf_fresh (knd := PySem.strKind prog w) led).setOf hget (by unfold scanBound; omega)) (fun _ => rfl) rfl
        case hR =>
          intro s' hm hS'
          obtain ⟨h', g', d', tk', os'⟩ := s'
          have eg : g' = s.gens := hm.gens
          have ed : d' = s.drawn := hm.drawn
          have eo : os' = s.os := hm.os
          subst eg; subst ed; subst eo
          show wpAny _ _ _ _ _ _
          refine wpAny_pure ?_
          show wpAny _ _ (ret Value.none) _ _ _
          refine wpAny_pure ⟨rfl, h', tk', rfl, hS', fun b o hb e => ?_⟩
          have hb1 : b ≠ s.heap.objs.size := Nat.ne_of_lt hb
          have hb2 : b ≠ (s.heap.push { cls := .type "set", dict := none, data := .set #[] 0 (.fresh 0 0 led) }).objs.size := by
            rw [Heap.size_push]; exact Nat.ne_of_lt (Nat.lt_succ_of_lt hb)
          exact hm.heap b o (by simp only [List.mem_cons, List.mem_singleton, List.not_mem_nil, or_false, not_or]; exact ⟨hb1, hb2⟩) (Heap.get?_push_of_some _ (Heap.get?_push_of_some _ e))

      · cases r₂ with
        | error e => exact hr₂
        | ok fl₂ =>
          cases fl₂ with
          | ret r =>
            obtain ⟨rfl, h', tk, rfl, hS', hk'⟩ := hr₂
            repeat (any_goals (first | assumption | wp_step))
            exact h _ _ hS' hk'
          | _ => exact hr₂.elim
    | _ => exact hr.elim

end
end SN
namespace L2
open PySem PySem.Spec PyProof.Rows SN
/-- len(set(xs)), xs a list of some texts -/
def tLenSetN (K : PySem.W.Frag) (ta : TE) : TE := fun σ H Q => ta σ H fun x H1 => ∃ l, ∃ xs : List Str, x = .ref l ∧ SqL K H1 l (xs.map V.str) ∧ xs.length ≤ 16 ∧ Q (.int ((dd xs).length : Nat)) H1
section
variable {X : Cx}
theorem pe_lenSetN {a : Expr} {ta : TE} {p p2 q pos : Pos} (hc : X.calm = true) (hg : Gl X "len") (hm : X.mg "len" = none) (hg2 : Gl X "set") (hm2 : X.mg "set" = none) (ha : PE X a ta)
    (na : starEach [a] X.env = (false, eval a X.env) :: starEach [] X.env := by rfl) : PE X (.Call (.Name "len" p) [.Call (.Name "set" p2) [a] [] q] [] pos) (tLenSetN X.K ta) := by
  refine ⟨fun pins s σ H Q I h => ?_⟩
  refine Call_ (ld_blt I hg hm boot_len ?_)
  refine PyProof.Rows.callWith_builtin1 (PyProof.Rows.args_cons ?_ rfl) rfl rfl
  refine Call_ (ld_blt I hg2 hm2 boot_set ?_)
  refine PyProof.Rows.callWith_type1 (PyProof.Rows.args_cons (thn (ha.run pins s σ H _ I h) fun v s1 ⟨x, H1, I1, r1, q1⟩ => PyProof.Rows.args_nil ?_) na) na rfl
  obtain ⟨l, xs, rfl, hq, h1, q1⟩ := q1
  cases r1
  obtain ⟨its, r, pl, hz⟩ := I1.list hq
  have hl : its.toArray.size = xs.length := by rw [List.size_toArray, ← r.length, List.length_map]
  have hsb : (18 : Nat) < scanBound := by unfold scanBound; decide
  refine SN.call_set_listN (I1.ok.hd hc) pl.isList (by simpa using strsAre_of r) (by omega) fun h' tk hS hk => ?_
  refine PyProof.Rows.args_nil ?_
  rw [hl, List.take_length] at hS
  obtain ⟨o, es, ep, t, ho, hex, hd, _, _, _, hf, hn⟩ := hS
  have I2 : Inv X pins σ H1 { s1 with heap := h', toks := tk } := I1.kept fun b o e => hk b o (Heap.lt_size e) e
  have hdl := dd_le xs
  have h16 : (16 : Nat) < sizeLine := by decide
  refine call_len_set ho hex hd hf (by rw [hn] <;> omega) ⟨.int ((dd xs).length : Nat), H1, I2.tok _, ⟨_, by rw [hn]⟩, q1⟩
/-! ### set comprehensions of keys -/
theorem setK_fresh (P : Program) (w : World) {h : Heap} : (h.push { cls := .type "set", dict := none, data := .set #[] 0 (.fresh 0 0 (!w.params.followText "set-order")) }).SetOf (mixKind P w) h.objs.size (fun _ => false) 0 :=
  ⟨_, #[], 0, _, Heap.get?_push_size _ rfl, ⟨rfl, rfl, rfl⟩, rfl, (fun e he => by simp at he), (fun k => by simp), (by decide), (by rfl), rfl⟩
theorem addK_ok {pins : List (Addr × Obj)} {σ : L2.St} {H : Hp} {s : Shared} {E : Value → Shared → Prop} {D : Addr} {S : Key → Bool} {n : Nat} {y : Key} {u : Value} {Q : Value → Shared → Prop} (I : Inv X pins σ H s) (hD : H D = some (SetK X.prog X.w D S n)) (room : n + 1 < scanBound) (ry : RelV (kV y) u)
    (h : ∀ s', Inv X pins σ (upd H D (SetK X.prog X.w D (fun j => S j || decide (j = y)) (if S y = true then n else n + 1))) s' → Q .none s') : wpAny (model X.prog X.w) X.A (call (.builtin "set.add") [.ref D, u]) Q E s := by
  refine call_set_add (kV_is ry) (key_scan ry) (setK_get I hD) room fun h' sb new => ?_
  have he : ∃ u, h'.get? D = some u := by
    have ⟨o, _, _, _, ho, _⟩ := new
    exact ⟨o, ho⟩
  exact h _ (I.write (e := D) (t' := s.toks + 1) (by rw [hD]; trivial) (.inl rfl) (fun b u hb hu => (sb.2 b hb).trans hu) he (setK_new new))
/-- len of such a set -/
theorem call_lenK : CallR X (.builtin "len") (fun xs H Q => ∃ a S n, xs = [.ref a] ∧ H a = some (SetK X.prog X.w a S n) ∧ n ≤ 16 ∧ Q (.int (n : Nat)) H) := by
  intro pins s σ H xs us Q I r h
  obtain ⟨a, S, n, rfl, ha, hn16, q⟩ := h
  cases r with
  | cons r1 r2 =>
    cases r2
    cases r1
    obtain ⟨o, es, ep, t, ho, hex, hd, _, _, _, hf, hn⟩ := setK_get I ha
    have h16 : (16 : Nat) < sizeLine := by decide
    exact call_len_set ho hex hd hf (by rw [hn] <;> omega) ⟨.int (n : Nat), H, I.tok _, ⟨_, by rw [hn]⟩, q⟩
/-- {elt for target in iter if ..}, elt a truth value: D the new set -/
def tScK (P : Program) (w : World) (wi : TI) (g : TG) (tt : TT) (te : TE) (vs : List Nat) : TE := fun σ H Q => wi σ H fun J H1 => ∀ D, H1 D = none → ∃ W : Nat → Nat → Hp → Prop, (∃ m, W 0 m (upd H1 D (SetK P w D (fun _ => false) 0))) ∧ ∀ i m H, W i m H →
  (J.stop i H ∧ Q (.ref D) H) ∨ (J.go i H ∧ ∃ Nx : Hp → Prop, (∀ H', Nx H' → ∃ m', m' < m ∧ W (i + 1) m' H') ∧ ∀ x H', J.yld i H x H' → g x (wipe σ vs) H' fun σ2 H2 => wipe σ2 vs = wipe σ vs ∧ tt σ2 H2 fun b H3 =>
    if b = true then te σ2 H3 fun y H4 => ∃ (c : Key) (S : Key → Bool) (n : Nat), y = kV c ∧ H4 D = some (SetK P w D S n) ∧ n + 1 < scanBound ∧ Nx (upd H4 D (SetK P w D (fun j => S j || decide (j = c)) (if S c = true then n else n + 1))) else Nx H3)
theorem scK_core {pins : List (Addr × Obj)} {s : Shared} {σ : L2.St} {H : Hp} {Q : VK} {elt tg iter : Expr} {ifs : List Expr} {scope : Scope} {own : List (PySem.Str × Nat)} {pos pos' : Pos} {wi : TI} {g : TG} {tt : TT} {te : TE} {use : Option (Value → Sem Unit)} {Qf : Value → Shared → Prop}
    (hc : X.calm = true) (hN : X.N.Nodup) (I : Inv X pins σ H s) (hi : PI X tg iter wi) (ok : BlkOk X.N X.env.scope scope own)
    (hg : ∀ (s : Shared) (H : Hp) (C : Addr) (cl : List (PySem.Str × Addr)) (fp : List Addr), PG (X.blk s H scope (compEnvC scope cl C X.env) fp) tg g) (ht : ∀ (s : Shared) (H : Hp) (C : Addr) (cl : List (PySem.Str × Addr)) (fp : List Addr), PTs (X.blk s H scope (compEnvC scope cl C X.env) fp) ifs tt)
    (he : ∀ (s : Shared) (H : Hp) (C : Addr) (cl : List (PySem.Str × Addr)) (fp : List Addr), PE (X.blk s H scope (compEnvC scope cl C X.env) fp) elt te) (hs : ∀ x, foldedSetIterable iter X.env x = pure x)
    (h : tScK X.prog X.w wi g tt te (own.map (·.2)) σ H Q)
    (hRR : ∀ D C s' m H', Inv X pins σ H' s' → Q (.ref D) H' → s'.heap.Ns C m → FpOk X pins H' C → compPost (model X.prog X.w) X.A X.xe use Qf (.ref D) C (.ok .next) s') :
    wpAny (model X.prog X.w) X.A (comprehension (.SetComp elt [⟨tg, iter, ifs, 0⟩] scope pos) scope X.env pos' (newSet (.type "set")) false (eval iter X.env) use) Qf X.xe s := by
  have hfree : ∀ y ∈ scope.names, y.2 = .free → ∃ c, X.env.cells.lookup y.1 = some c := fun y hy e => by
    rcases ok.free y hy e with k | k
    · exact I.ok.has _ (.inl k)
    · exact I.ok.has _ (.inr k)
  refine wpAny_comprehension_free (use := use) rfl hs (closure_ok hfree) ok.kind (fun y hy e => by rw [ok.uniq y hy, e])
    (thn (hi.run pins s σ H _ I h) fun xv s1 hx => thn hx fun itv s2 h2 => ?_)
  obtain ⟨it, fp, tn, J, H2, e, I2, T, st2, f2, q⟩ := h2
  subst e
  refine PpSet.newSet_ok (newEnv_comp ?_)
  generalize hD : s2.heap.objs.size = D
  have hDn : H2 D = none := I2.hok.fresh (Nat.le_of_eq hD)
  obtain ⟨W, ⟨m0, w0⟩, turn⟩ := q D hDn
  -- the new list
  generalize hs3 : ({ s2 with heap := s2.heap.push { cls := .type "set", dict := none, data := .set #[] 0 (.fresh 0 0 (!X.w.params.followText "set-order")) } } : Shared) = s3
  have I3 : Inv X pins σ (upd H2 D (SetK X.prog X.w D (fun _ => false) 0)) s3 := by
    rw [← hs3]
    refine I2.laid (t' := s2.toks) (fun b o e => Heap.get?_push_of_some _ e) (Nat.le_of_eq hD) ?_
    rw [← hD]
    exact setK_new (setK_fresh X.prog X.w)
  have h3 : s3.heap = s2.heap.push { cls := .type "set", dict := none, data := .set #[] 0 (.fresh 0 0 (!X.w.params.followText "set-order")) } := by rw [← hs3]
  have sz : ∀ b ∈ fp, b < s2.heap.objs.size := fun b hb => by
    obtain ⟨o, e, _⟩ := T.obj _ _ st2 b hb
    exact Heap.lt_size e
  have f3 : ∀ b ∈ fp, FpOk X pins (upd H2 D (SetK X.prog X.w D (fun _ => false) 0)) b ∧ b < s3.heap.objs.size := fun b hb => by
    have hlt := sz b hb
    refine ⟨⟨?_, (f2 b hb).2⟩, by rw [h3, Heap.size_push]; exact Nat.lt_succ_of_lt hlt⟩
    rw [upd_ne (by rw [← hD]; exact Nat.ne_of_lt hlt)]
    exact (f2 b hb).1
  have st3 : tn 0 s3.heap := T.keep _ _ _ st2 fun b _ o e => by rw [h3]; exact Heap.get?_push_of_some _ e
  have I4 := block_start I3 ok hN f3
  have pg := hg s3 (upd H2 D (SetK X.prog X.w D (fun _ => false) 0)) s3.heap.objs.size (cellsFrom (s3.heap.objs.size + 1) scope.names (cloFrom X.env.cells scope.names [])) fp
  have pt := ht s3 (upd H2 D (SetK X.prog X.w D (fun _ => false) 0)) s3.heap.objs.size (cellsFrom (s3.heap.objs.size + 1) scope.names (cloFrom X.env.cells scope.names [])) fp
  have pe := he s3 (upd H2 D (SetK X.prog X.w D (fun _ => false) 0)) s3.heap.objs.size (cellsFrom (s3.heap.objs.size + 1) scope.names (cloFrom X.env.cells scope.names [])) fp
  show codeAny _ _ (.compStart (.SetComp elt [⟨tg, iter, ifs, 0⟩] scope pos) 0 (.ref it) (.ref D) (compEnvC scope (cellsFrom (s3.heap.objs.size + 1) scope.names (cloFrom X.env.cells scope.names [])) s3.heap.objs.size X.env)) (compPost (model X.prog X.w) X.A X.xe use Qf (.ref D) s3.heap.objs.size) { s3 with heap := pushCells (s3.heap.push { cls := .type "dict", data := .dict #[] }) scope.names }
  have nfp : ∀ b ∈ fp, (upd H2 D (SetK X.prog X.w D (fun _ => false) 0)) b = none := fun b hb => (f3 b hb).1.1
  generalize hce : compEnvC scope (cellsFrom (s3.heap.objs.size + 1) scope.names (cloFrom X.env.cells scope.names [])) s3.heap.objs.size X.env = ce at I4 pg pt pe ⊢
  have cL : ce.locals = s3.heap.objs.size := by subst hce; rfl
  generalize hH3 : upd H2 D (SetK X.prog X.w D (fun _ => false) 0) = H3 at I3 I4 pg pt pe w0 nfp f3
  generalize hs4 : ({ s3 with heap := pushCells (s3.heap.push { cls := .type "dict", data := .dict #[] }) scope.names } : Shared) = s4 at I4 ⊢
  have st4 : tn 0 s4.heap := T.keep _ _ _ st3 fun b _ o e => by rw [← hs4]; exact pushCells_keeps _ _ _ _ (Heap.get?_push_of_some _ e)
  have stat : ∀ {σ' : L2.St} {H' : Hp} {s' : Shared}, Inv (X.blk s3 H3 scope ce fp) [] σ' H' s' → (∀ b ∈ fp, H' b = none) → ∀ b ∈ fp, FpOk (X.blk s3 H3 scope ce fp) [] H' b := fun {σ' H' s'} I' hn b hb =>
    ⟨hn b hb, (I'.ok.exf b hb).1, I'.ok.exfs b hb, .inl hb, fun x c e => (I'.ok.exf b hb).2 x c e, fun p hp => absurd (show p ∈ ([] : List (Addr × Obj)) ++ [] from hp) (by simp)⟩
  have loop : codeAny (model X.prog X.w) X.A (.compLoop (.SetComp elt [⟨tg, iter, ifs, 0⟩] scope pos) 0 (.ref it) (.ref D) ce) (compPost (model X.prog X.w) X.A X.xe use Qf (.ref D) s3.heap.objs.size) s4 := by
    refine PpSet.compLoopS_any (fun n s' => ∃ i H', Inv (X.blk s3 H3 scope ce fp) [] (wipe σ (own.map (·.2))) H' s' ∧ tn i s'.heap ∧ (∀ b ∈ fp, H' b = none) ∧ W i n H') ?_ m0 ⟨0, H3, I4, st4, nfp, w0⟩
    rintro n s5 ⟨i, H5, I5, st5, n5, w5⟩
    rcases turn i n H5 w5 with ⟨stop, qq⟩ | ⟨go, Nx, hNx, step⟩
    · have td := T.done (X.blk s3 H3 scope ce fp) rfl rfl rfl hc i [] s5 _ H5 (fun _ _ => False) I5 (stat I5 n5) st5 stop
      refine thnF td fun r s6 ⟨hr, I6⟩ => ?_
      subst hr
      -- back in the def's context
      have I7 : Inv X pins σ H5 s6 := I3.call' (ch := fp) I6.os I6.base I6.hok I6.bare fun b hb => ⟨(f3 b hb).1.2.2.2.1, (f3 b hb).1.2.1, (f3 b hb).1.2.2.2.2.1, (f3 b hb).1.2.2.2.2.2⟩
      have nC : H5 s3.heap.objs.size = none := by
        have z : H5 ce.locals = none := I6.free
        rw [cL] at z
        exact z
      obtain ⟨m, hn, _⟩ := I6.loc
      have hn : s6.heap.Ns ce.locals m := hn
      rw [cL] at hn
      exact hRR D s3.heap.objs.size s6 m H5 I7 qq hn (I3.fpOk (Nat.le_refl _) nC)
    · have ti := T.item (X.blk s3 H3 scope ce fp) rfl rfl rfl hc i [] s5 _ H5 (fun _ _ => False) I5 (stat I5 n5) st5 go
      refine thnF ti fun r s6 ⟨u, hr, h6⟩ => ?_
      subst hr
      refine thnF h6 fun _ s7 ⟨x, H7, I7, r7, y7, st7, n7⟩ => ?_
      have I7' := I7.pinned (stat I7 n7) (T.obj _ _ st7)
      refine thnF (pg.run _ s7 _ H7 x u _ I7' r7 (step x H7 y7)) fun _ s8 ⟨σ8, H8, I8, hw8, q8⟩ => ?_
      refine thnF (pt.run _ s8 σ8 H8 _ I8 q8) fun b s9 ⟨H9, I9, q9⟩ => ?_
      -- the turn's end
      have fin : ∀ {s' : Shared} {H' : Hp}, Inv (X.blk s3 H3 scope ce fp) ([] ++ pinsAt fp s7.heap) σ8 H' s' → Nx H' → ∃ m, m < n ∧ ∃ i H', Inv (X.blk s3 H3 scope ce fp) [] (wipe σ (own.map (·.2))) H' s' ∧ tn i s'.heap ∧ (∀ b ∈ fp, H' b = none) ∧ W i m H' := fun {s' H'} I' nx => by
        obtain ⟨m', hm, w'⟩ := hNx H' nx
        have pin' : ∀ b ∈ fp, ∀ o, s7.heap.get? b = some o → s'.heap.get? b = some o ∧ H' b = none := fun b hb o e =>
          let z := I'.pin (b, o) (List.mem_append_right _ (List.mem_append_right _ (mem_pinsAt hb e)))
          ⟨z.1, z.2.1⟩
        have hl : (wipe σ (own.map (·.2))).length = σ8.length := by rw [← hw8, wipe_length]
        refine ⟨m', hm, i + 1, H', (I'.unpinned (pins := [])).weak hl (fun j v e => ?_), T.keep _ _ _ st7 fun b hb o e => (pin' b hb o e).1, fun b hb => ?_, w'⟩
        · rw [← hw8] at e
          exact (wipe_some e).1
        · obtain ⟨o, e, _⟩ := T.obj _ _ st7 b hb
          exact (pin' b hb o e).2
      cases b with
      | false =>
        simp only [Bool.false_eq_true, if_false] at q9 ⊢
        exact fin I9 q9
      | true =>
        simp only [if_true] at q9 ⊢
        refine thnF (pe.run _ s9 σ8 H9 _ I9 q9) fun z s10 ⟨yv, H10, I10, r10, cb, S0, n0, ey, hD10, hz10, nx⟩ => ?_
        subst ey
        exact addK_ok (X := X.blk s3 H3 scope ce fp) I10 hD10 hz10 r10 fun s11 I11 => fin I11 nx
  exact PpSet.codeAny_compStart_set loop (T.self X.A 0 _ _ _ st4 loop)
/-- as a value -/
theorem pe_scK {elt tg iter : Expr} {ifs : List Expr} {scope : Scope} {own : List (PySem.Str × Nat)} {pos : Pos} {wi : TI} {g : TG} {tt : TT} {te : TE} (hc : X.calm = true) (hN : X.N.Nodup) (hi : PI X tg iter wi) (ok : BlkOk X.N X.env.scope scope own)
    (hg : ∀ (s : Shared) (H : Hp) (C : Addr) (cl : List (PySem.Str × Addr)) (fp : List Addr), PG (X.blk s H scope (compEnvC scope cl C X.env) fp) tg g) (ht : ∀ (s : Shared) (H : Hp) (C : Addr) (cl : List (PySem.Str × Addr)) (fp : List Addr), PTs (X.blk s H scope (compEnvC scope cl C X.env) fp) ifs tt)
    (he : ∀ (s : Shared) (H : Hp) (C : Addr) (cl : List (PySem.Str × Addr)) (fp : List Addr), PE (X.blk s H scope (compEnvC scope cl C X.env) fp) elt te) (hs : ∀ x, foldedSetIterable iter X.env x = pure x := by intro _; rfl) :
    PE X (.SetComp elt [⟨tg, iter, ifs, 0⟩] scope pos) (tScK X.prog X.w wi g tt te (own.map (·.2))) := by
  refine ⟨fun pins s σ H Q I h => ?_⟩
  rw [PpSet.eval_SetComp]
  refine scK_core hc hN I hi ok hg ht he hs h fun D C s' m H' I' q hn f => ⟨m, hn, fun h'' sb => ?_⟩
  obtain ⟨f0, f1, f2, f3, f4, f5⟩ := f
  exact ⟨.ref D, H', I'.turned (t' := s'.toks) (fun b o hb e => (sb.2 b hb).trans e) f0 f1 f3 f4 f5, rfl, q⟩
end
end L2
/-! F0: the text by places; what is said of heaps and orders. -/
namespace S78
open PySem PySem.Spec PyProof.Rows L2 RP
def top (i : Nat) : Stmt := PySem.Challenge.pw_orderwide_k78_steps_as_texts.main.body.getD i (.Pass ⟨0, 0, 0, 0⟩)
abbrev FnP (K : PySem.W.Frag) (x : Str) (st : Stmt) (f : Addr) (fd : FuncData) : Prop := FunD K x x (defArgs st) (defBody st) (defScope st) [] [] f fd
abbrev MtP (K : PySem.W.Frag) (x q : Str) (st : Stmt) (f : Addr) (fd : FuncData) : Prop := FunD K x q (defArgs st) (defBody st) (defScope st) [] [] f fd
/-- the built-in names stay as they are -/
structure Fre (mg : Str → Option Value) : Prop where
  len : mg "len" = none
  isi : mg "isinstance" = none
  all : mg "all" = none
  str : mg "str" = none
  list : mg "list" = none
  tuple : mg "tuple" = none
  set : mg "set" = none
  enum : mg "enumerate" = none
  max : mg "max" = none
  min : mg "min" = none
  range : mg "range" = none
  repr : mg "repr" = none
/-- the module's constants -/
structure Cst (mg : Str → Option Value) : Prop where
  let_ : ∃ t, mg "LETTERS" = some (.str "abcdefghijklmnopqrstuvwxyz" t)
  ln : ∃ t, mg "LONGEST_NAME" = some (.int 8 t)
  mc : ∃ t, mg "MOST_COLUMNS" = some (.int 5 t)
  build : ∃ t, mg "BUILD" = some (.str "build" t)
  relay : ∃ t, mg "RELAY" = some (.str "relay" t)
  drop : ∃ t, mg "DROP" = some (.str "drop" t)
  ms : ∃ t, mg "MOST_STEPS" = some (.int 100 t)
  tw : ∃ t, mg "TOWARDS" = some (.str " > " t)
theorem pe_cst {X : Cx} {x : Str} {p : Pos} {v : V} (hg : Gl X x) (h : ∃ u, X.mg x = some u ∧ RelV v u) (hdb : (x == ("__debug__" : Str)) = false := by decide) : PE X (.Name x p) (tC v) := by
  obtain ⟨u, h1, h2⟩ := h
  exact pe_glob hg h1 h2 (hd := hdb)
theorem cst_str {mg : Str → Option Value} {x z : Str} (h : ∃ t, mg x = some (.str z t)) : ∃ u, mg x = some u ∧ RelV (.str z) u := let ⟨t, e⟩ := h; ⟨_, e, t, rfl⟩
theorem cst_int {mg : Str → Option Value} {x : Str} {z : Int} (h : ∃ t, mg x = some (.int z t)) : ∃ u, mg x = some u ∧ RelV (.int z) u := let ⟨t, e⟩ := h; ⟨_, e, t, rfl⟩

/-! ### answers of tests -/
theorem iteB {c : Bool} {A B : Prop} (h1 : c = true → A) (h2 : c = false → B) : if c = true then A else B := by
  cases c with
  | true => rw [if_pos rfl]; exact h1 rfl
  | false => rw [if_neg Bool.false_ne_true]; exact h2 rfl
theorem iteN {c : Bool} {A B : Prop} (h1 : c = false → A) (h2 : c = true → B) : if (!c) = true then A else B := by
  cases c with
  | true => exact iteF (h2 rfl)
  | false => exact iteT (h1 rfl)
/-! ### heaps -/
/-- all but what stands at b is kept -/
def KpB (b : Addr) (H H' : Hp) : Prop := ∀ a o, a ≠ b → H a = some o → H' a = some o
theorem KpB.rfl' {b : Addr} {H : Hp} : KpB b H H := fun _ _ _ h => h
theorem KpB.trans {b : Addr} {H H1 H2 : Hp} (a : KpB b H H1) (c : KpB b H1 H2) : KpB b H H2 := fun x o n h => c x o n (a x o n h)
theorem KpB.of {b : Addr} {H H' : Hp} (e : Ext H H') : KpB b H H' := fun a o _ h => e a o h
theorem KpB.new {b p : Addr} {H : Hp} {o : HO} (h : H p = none) : KpB b H (upd H p o) := .of (Ext.upd h)
theorem KpB.at {b : Addr} {H : Hp} {o : HO} : KpB b H (upd H b o) := fun a u n e => by rw [upd_ne n]; exact e
theorem kpb_none {b a : Addr} {H H' : Hp} (k : KpB b H H') (h : H' a = none) (n : a ≠ b) : H a = none := by
  cases e : H a with
  | none => rfl
  | some o => rw [k a o n e] at h; cases h
theorem ext_none {a : Addr} {H H' : Hp} (k : Ext H H') (h : H' a = none) : H a = none := by
  cases e : H a with
  | none => rfl
  | some o => rw [k a o e] at h; cases h

/-- what was new may be written -/
theorem ext_set {H H' : Hp} {D : Addr} {o : HO} (e : Ext H H') (h : H D = none) : Ext H (upd H' D o) := fun a u q => by
  have n : a ≠ D := fun z => by rw [z, h] at q; cases q
  rw [upd_ne n]
  exact e a u q
theorem kpb_set {H H' : Hp} {b D : Addr} {o : HO} (e : KpB b H H') (h : H D = none) : KpB b H (upd H' D o) := fun a u nb q => by
  have n : a ≠ D := fun z => by rw [z, h] at q; cases q
  rw [upd_ne n]
  exact e a u nb q
theorem ext_kpb {b : Addr} {H H1 H2 : Hp} (e : Ext H H1) (k : KpB b H1 H2) (h : H b = none) : Ext H H2 := fun a o q => k a o (fun z => by rw [z, h] at q; cases q) (e a o q)
theorem dom_of {H : Hp} {a : Addr} {o : HO} (h : H a = some o) : H a ≠ none := by rw [h]; simp
/-- two lists side by side -/
def All2 {α β : Type} (R : α → β → Prop) (xs : List α) (ys : List β) : Prop := xs.length = ys.length ∧ ∀ (i : Nat) x y, xs[i]? = some x → ys[i]? = some y → R x y
theorem All2.nil {α β : Type} {R : α → β → Prop} : All2 R [] [] := ⟨rfl, fun i x y h _ => by simp at h⟩
theorem All2.cons {α β : Type} {R : α → β → Prop} {x : α} {y : β} {xs : List α} {ys : List β} (h : R x y) (p : All2 R xs ys) : All2 R (x :: xs) (y :: ys) := by
  refine ⟨by rw [List.length_cons, List.length_cons, p.1], fun i a b h1 h2 => ?_⟩
  cases i with
  | zero =>
    simp at h1 h2
    subst h1; subst h2
    exact h
  | succ i =>
    simp at h1 h2
    exact p.2 i a b h1 h2
theorem All2.snoc {α β : Type} {R : α → β → Prop} {x : α} {y : β} {xs : List α} {ys : List β} (p : All2 R xs ys) (h : R x y) : All2 R (xs ++ [x]) (ys ++ [y]) := by
  refine ⟨by rw [List.length_append, List.length_append, p.1]; rfl, fun i a b h1 h2 => ?_⟩
  rcases Nat.lt_or_ge i xs.length with hi | hi
  · rw [List.getElem?_append_left hi] at h1
    rw [List.getElem?_append_left (p.1 ▸ hi)] at h2
    exact p.2 i a b h1 h2
  · rw [List.getElem?_append_right hi] at h1
    rw [List.getElem?_append_right (p.1 ▸ hi)] at h2
    have hl : i - xs.length = 0 := by
      have : i - xs.length < [x].length := by
        rcases Nat.lt_or_ge (i - xs.length) [x].length with q | q
        · exact q
        · rw [List.getElem?_eq_none q] at h1; cases h1
      simpa using this
    rw [hl] at h1
    rw [← p.1, hl] at h2
    simp at h1 h2
    subst h1; subst h2
    exact h
theorem All2.imp {α β : Type} {R R' : α → β → Prop} {xs : List α} {ys : List β} (p : All2 R xs ys) (h : ∀ x y, R x y → R' x y) : All2 R' xs ys := ⟨p.1, fun i x y h1 h2 => h x y (p.2 i x y h1 h2)⟩
theorem All2.inv {α β : Type} {R : α → β → Prop} {y : β} {xs : List α} {ys : List β} (p : All2 R xs (y :: ys)) : ∃ x xs', xs = x :: xs' ∧ R x y ∧ All2 R xs' ys := by
  cases xs with
  | nil => have := p.1; simp at this
  | cons x xs =>
    refine ⟨x, xs, rfl, p.2 0 x y rfl rfl, by have := p.1; simpa using this, fun i a b h1 h2 => p.2 (i + 1) a b (by simpa using h1) (by simpa using h2)⟩
theorem All2.inv0 {α β : Type} {R : α → β → Prop} {xs : List α} (p : All2 R xs ([] : List β)) : xs = [] := by
  cases xs with
  | nil => rfl
  | cons x xs => have := p.1; simp at this

theorem set_wipe (σ : L2.St) (j : Nat) (x : V) : wipe ((wipe σ [j]).set j (some x)) [j] = wipe σ [j] := by
  show ((σ.set j none).set j (some x)).set j none = σ.set j none
  rw [List.set_set, List.set_set]
/-- [e for x in xs]: what R says of each; nothing else is changed -/
theorem lc_map {J : It} {xs : List V} {G : Hp → Prop} (wk : Walk J xs.length G (YAt xs)) {te : TE} {j : Nat} {σ : L2.St} {H1 : Hp} {D : Addr} {Qd : Hp → Prop} (R : V → V → Hp → Prop) (hD : H1 D = none) (hL : ∀ H, Ext H1 H → G H) (hz : xs.length < sizeLine)
    (hmon : ∀ x y H H', Ext H1 H → KpB D H H' → R x y H → R x y H')
    (hs : ∀ (i : Nat) (x : V) (acc : List V) (H : Hp), xs[i]? = some x → Ext H1 H → H D = some (.lst acc) → ∀ Qe : VK, (∀ y H4, Ext H H4 → R x y H4 → Qe y H4) → te ((wipe σ [j]).set j (some x)) H Qe)
    (hd : ∀ H ys, Ext H1 H → H D = some (.lst ys) → All2 (fun x y => R x y H) xs ys → Qd H) :
    ∃ W : Nat → Nat → Hp → Prop, (∃ m, W 0 m (upd H1 D (.lst []))) ∧ ∀ i m H, W i m H →
      (J.stop i H ∧ Qd H) ∨ (J.go i H ∧ ∃ Nx : Hp → Prop, (∀ H', Nx H' → ∃ m', m' < m ∧ W (i + 1) m' H') ∧ ∀ x H', J.yld i H x H' → gName j x (wipe σ [j]) H' fun σ2 H2 => wipe σ2 [j] = wipe σ [j] ∧ tYes σ2 H2 fun b H3 =>
        if b = true then te σ2 H3 fun y H4 => ∃ acc, H4 D = some (.lst acc) ∧ acc.length < sizeLine ∧ Nx (upd H4 D (.lst (acc ++ [y]))) else Nx H3) := by
  refine lc_it wk (fun i H => ∃ acc, Ext H1 H ∧ H D = some (.lst acc) ∧ All2 (fun x y => R x y H) (xs.take i) acc) ?_ ?_ ?_ ?_
  · exact ⟨[], ext_set Ext.rfl' hD, upd_same, by rw [List.take_zero]; exact .nil⟩
  · rintro i H hi ⟨acc, e, _⟩
    exact hL H e
  · rintro i x H H' hi ⟨acc, e, hDa, hA⟩ ⟨rfl, hx⟩
    have hAl : acc.length = i := by rw [← hA.1, List.length_take]; omega
    have ht : xs.take (i + 1) = xs.take i ++ [x] := by rw [List.take_add_one, hx]; rfl
    refine ⟨set_wipe σ j x, ?_⟩
    dsimp only [tYes]
    rw [if_pos rfl]
    refine hs i x acc H' hx e hDa _ fun y H4 e4 r => ⟨acc, e4 _ _ hDa, by omega, acc ++ [y], ext_set (e.trans e4) hD, upd_same, ?_⟩
    rw [ht]
    have k4 : KpB D H' (upd H4 D (.lst (acc ++ [y]))) := (KpB.of e4).trans .at
    exact (hA.imp fun a b q => hmon a b _ _ e k4 q).snoc (hmon x y _ _ (e.trans e4) .at r)
  · rintro H ⟨acc, e, hDa, hA⟩
    rw [List.take_length] at hA
    exact hd H acc e hDa hA
def signs (z : Str) : List V := z.cps.toList.map fun c => V.str ⟨#[c]⟩
theorem walk_signs {z : Str} : Walk (Its z) (signs z).length (fun _ => True) (YAt (signs z)) := by
  have e : (signs z).length = z.cps.size := by simp [signs]
  rw [e]
  refine walk_str.mono (fun _ _ => True.intro) fun i H x H' hi _ y => ?_
  obtain ⟨h1, c, h2, h3⟩ := y
  refine ⟨h1, ?_⟩
  subst h3
  simp only [signs, List.getElem?_map, Array.getElem?_toList, h2, Option.map_some]
/-- [test for x in xs] of bools -/
theorem all2_bl {xs ys : List V} {p : V → Bool} (h : All2 (fun x y => y = .bl (p x)) xs ys) : ys = (xs.map p).map V.bl := by
  refine List.ext_getElem? fun i => ?_
  rcases Nat.lt_or_ge i xs.length with hi | hi
  · have hi2 : i < ys.length := by rw [← h.1]; exact hi
    have q := h.2 i xs[i] ys[i] (List.getElem?_eq_getElem hi) (List.getElem?_eq_getElem hi2)
    rw [List.getElem?_eq_getElem hi2, q, List.getElem?_map, List.getElem?_map, List.getElem?_eq_getElem hi]
    rfl
  · have hi2 : ys.length ≤ i := by rw [← h.1]; exact hi
    rw [List.getElem?_eq_none hi2, List.getElem?_map, List.getElem?_map, List.getElem?_eq_none hi]
    rfl

/-! ### orders -/
/-- at a an Order with the columns ws; all its places in S -/
def Ord (C : Addr) (S : Addr → Prop) (H : Hp) (a : Addr) (ws : List Str) : Prop := ∃ dx l, S a ∧ S l ∧ H a = some (.ins C dx [("own_columns", .ref l)]) ∧ H l = some (.lst (ws.map V.str))
theorem Ord.mono {C : Addr} {S S' : Addr → Prop} {H H' : Hp} {a : Addr} {ws : List Str} (o : Ord C S H a ws) (hS : ∀ b, S b → S' b) (k : ∀ b u, S b → H b = some u → (∀ ps, u ≠ .tbl ps) → H' b = some u) : Ord C S' H' a ws := by
  obtain ⟨dx, l, h1, h2, h3, h4⟩ := o
  exact ⟨dx, l, hS a h1, hS l h2, k a _ h1 h3 (fun ps z => by cases z), k l _ h2 h4 (fun ps z => by cases z)⟩
abbrev An : Addr → Prop := fun _ => True
theorem Ord.ext {C : Addr} {S : Addr → Prop} {H H' : Hp} {a : Addr} {ws : List Str} (o : Ord C S H a ws) (e : Ext H H') : Ord C S H' a ws := o.mono (fun _ h => h) fun b u _ h _ => e b u h
theorem Ord.any {C : Addr} {S : Addr → Prop} {H : Hp} {a : Addr} {ws : List Str} (o : Ord C S H a ws) : Ord C An H a ws := o.mono (fun _ _ => True.intro) fun b u _ h _ => h
/-- a value that is an Order -/
def OrdV (C : Addr) (S : Addr → Prop) (H : Hp) (v : V) (ws : List Str) : Prop := ∃ a, v = .ref a ∧ Ord C S H a ws
/-- v is the step (word, orders) -/
def Stp (C : Addr) (S : Addr → Prop) (H : Hp) (v : V) (st : Str × List (List Str)) : Prop := ∃ p os, v = .ref p ∧ S p ∧ H p = some (.tup (.str st.1 :: os)) ∧ All2 (OrdV C S H) os st.2
theorem OrdV.mono {C : Addr} {S S' : Addr → Prop} {H H' : Hp} {v : V} {ws : List Str} (o : OrdV C S H v ws) (hS : ∀ b, S b → S' b) (k : ∀ b u, S b → H b = some u → (∀ ps, u ≠ .tbl ps) → H' b = some u) : OrdV C S' H' v ws := let ⟨a, e, o⟩ := o; ⟨a, e, o.mono hS k⟩
theorem Stp.mono {C : Addr} {S S' : Addr → Prop} {H H' : Hp} {v : V} {st : Str × List (List Str)} (o : Stp C S H v st) (hS : ∀ b, S b → S' b) (k : ∀ b u, S b → H b = some u → (∀ ps, u ≠ .tbl ps) → H' b = some u) : Stp C S' H' v st := by
  obtain ⟨p, os, e, h1, h2, h3⟩ := o
  exact ⟨p, os, e, hS p h1, k p _ h1 h2 (fun ps z => by cases z), h3.imp fun x y r => r.mono hS k⟩
theorem Stp.ext {C : Addr} {S : Addr → Prop} {H H' : Hp} {v : V} {st : Str × List (List Str)} (o : Stp C S H v st) (e : Ext H H') : Stp C S H' v st := o.mono (fun _ h => h) fun b u _ h _ => e b u h
theorem Stp.any {C : Addr} {S : Addr → Prop} {H : Hp} {v : V} {st : Str × List (List Str)} (o : Stp C S H v st) : Stp C An H v st := o.mono (fun _ _ => True.intro) fun b u _ h _ => h

/-! ### texts in a list -/
theorem flatS (ws : List Str) : (ws.map V.str).all flatV = true := by
  rw [List.all_eq_true]
  intro x hx
  obtain ⟨z, _, rfl⟩ := List.mem_map.mp hx
  rfl
theorem inV_strs {z : Str} {ws : List Str} : inV (.str z) (ws.map V.str) = decide (z ∈ ws) := by
  unfold inV
  rw [Bool.eq_iff_iff, List.any_map, List.any_eq_true, decide_eq_true_eq]
  constructor
  · rintro ⟨y, hy, h⟩
    have h2 : (y == z) = true := h
    rw [← eq_of_beq h2]
    exact hy
  · intro h
    exact ⟨z, h, by show (z == z) = true; simp⟩
/-! ### names -/
def letterB (c : Nat) : Bool := decide (c ∈ ("abcdefghijklmnopqrstuvwxyz" : Str).cps.toList)
def nameB (z : Str) : Bool := decide (0 < z.length) && decide (z.length ≤ 8) && z.cps.toList.all letterB
/-- the columns of an order -/
def colsB (ws : List Str) : Bool := decide (0 < ws.length) && decide (ws.length ≤ 5) && ws.all nameB && decide ws.Nodup
end S78
/-! F1: is_name, is_list, split_words. -/
namespace S78
open PySem PySem.Spec PyProof.Rows L2 RP
abbrev sIsName : Stmt := top 14
abbrev sIsList : Stmt := top 15
abbrev sSplit : Stmt := top 16
theorem scN : FnScope ["value", "letter"] ["value"] (defScope sIsName) := ⟨rfl, rfl, rfl, by decide +kernel, rfl, by decide +kernel, by decide +kernel⟩
theorem scLi : FnScope ["value"] ["value"] (defScope sIsList) := ⟨rfl, rfl, rfl, by decide +kernel, rfl, by decide +kernel, by decide +kernel⟩
section
variable {P : Program} {w : World} {K : PySem.W.Frag} {mg : Str → Option Value} {base : Heap} {f : Addr} {fd : FuncData}
def signB : V → Bool
  | .str ⟨#[c]⟩ => letterB c
  | _ => false
theorem signs_get {z : Str} {i : Nat} {x : V} (h : (signs z)[i]? = some x) : ∃ c, x = .str ⟨#[c]⟩ := by
  rw [signs, List.getElem?_map] at h
  cases e : z.cps.toList[i]? with
  | none => rw [e] at h; cases h
  | some c => rw [e] at h; exact ⟨c, (Option.some.inj h).symm⟩
def spIsName : Sp := fun vs H Q _ => ∃ z : Str, vs = [.str z] ∧ z.length ≤ sizeLine ∧ ∀ H', Ext H H' → Q (.bl (nameB z)) H'
theorem ok_isName (F : FnP K "is_name" sIsName f fd) (T : Fre mg) (Cs : Cst mg) : FnOk P w K mg base CX0 1 f fd ["value"] spIsName := by
  refine F.ok scN (fun vs H Q E h => by obtain ⟨z, rfl, _⟩ := h; rfl) (fun cdv A outer s H vs Q E hr h => ?_)
  obtain ⟨z, rfl, hz, hQ⟩ := h
  refine ⟨_, PSs.nox (pss_cons (ps_if (PW.pt (pw_or (pt_not (pt_val (pe_callB call_isi rfl T.isi boot_isinstance (pa_cons (pv 0) (pa_cons (pe_bltn rfl T.str boot_str (v := .ty "str") rfl) pa_nil)))))
      (pw_or1 (pt_not (pt_chain op_lt op_le pe_int (pe_callB call_len_str rfl T.len boot_len (pa_cons (pv 0) pa_nil)) (pe_cst rfl (cst_int Cs.ln))))))) (pss_one (ps_ret pe_bl)) pss_nil)
    (pss_one (ps_ret (pe_callB (cr_all rfl) rfl T.all boot_all (pa_cons (pe_lc (own := [("letter", 1)]) (g := gName 1) (tt := tYes) rfl scN.nd (pi_str (pv 0)) (blkOk_by (N := ["value", "letter"]) (sc := defScope sIsName) (by decide +kernel))
      (fun _ _ _ _ _ => pg_name (i := 1) scN.nd rfl (Or.inl rfl)) (fun _ _ _ _ _ => pts_nil) (fun _ _ _ _ _ => pe_cmpR op_in_sign (pv 1) (pe_cst rfl (cst_str Cs.let_)) rfl)) pa_nil))))), ?_⟩
  refine ⟨_, rfl, _, _, _, _, true, rfl, .ty "str", .base (.str _), kit_ty (by decide +kernel), true, rfl, iteF ?_⟩
  have key : decide ((0 : Int) < (z.length : Nat)) = decide (0 < z.length) := by
    rw [decide_eq_decide]; omega
  refine ⟨_, rfl, _, rfl, hz, _, _, rfl, rfl, _, rfl, ?_⟩
  have fin : ∀ H', Ext H H' → nameB z = false → Q (.bl false) H' := fun H' e q => by rw [← q]; exact hQ H' e
  refine ite2 (fun h0 => ?_) (fun h0 => ?_)
  · refine ⟨_, _, rfl, rfl, _, rfl, iteN (fun h1 => ?_) (fun h1 => ?_)⟩
    · refine fin _ Ext.rfl' ?_
      have h2 : ¬ z.length ≤ 8 := by have := of_decide_eq_false h1; omega
      simp [nameB, h2]
    · refine ⟨_, rfl, z, rfl, fun D hD => lc_map (R := fun x y _ => y = .bl (signB x)) walk_signs hD (fun _ _ => True.intro) ?_ (fun _ _ _ _ _ _ r => r) (fun i x acc H2 hx e hDa Qe k => ?_) (fun H2 ys e hDa hA => ?_)⟩
      · have h2 : z.length ≤ 8 := by have := of_decide_eq_true h1; omega
        have h3 : (signs z).length = z.length := by simp [signs]; rfl
        rw [h3]; exact Nat.lt_of_le_of_lt h2 (by decide)
      · obtain ⟨c, rfl⟩ := signs_get hx
        exact ⟨_, rfl, _, _, rfl, rfl, k _ _ Ext.rfl' rfl⟩
      · have e2 := all2_bl hA
        refine ⟨D, (signs z).map signB, rfl, SqL.of (by rw [hDa, e2]), ?_⟩
        have e3 : nameB z = ((signs z).map signB).all id := by
          have h2 : z.length ≤ 8 := by have := of_decide_eq_true h1; omega
          have h4 : 0 < z.length := by have := of_decide_eq_true h0; omega
          simp only [nameB, h2, h4, decide_true, Bool.true_and, signs, List.map_map, List.all_map]
          rfl
        rw [← e3]
        exact hQ _ e
  · refine ⟨false, rfl, iteN (fun _ => ?_) (fun q => by cases q)⟩
    refine fin _ Ext.rfl' ?_
    have h2 : ¬ 0 < z.length := by
      intro q
      exact h0 (by rw [decide_eq_true_eq]; omega)
    simp [nameB, h2]
/-! ### is_list -/
/-- what it is: a list or a tuple, or something else -/
inductive Lty (K : PySem.W.Frag) (H : Hp) : V → Bool → Prop where
  | lst {a : Addr} {xs : List V} (h : H a = some (.lst xs)) : Lty K H (.ref a) true
  | tup {a : Addr} {xs : List V} (h : H a = some (.tup xs)) : Lty K H (.ref a) true
  | non : Lty K H .non false
  | int (i : Int) : Lty K H (.int i) false
  | str (z : Str) : Lty K H (.str z) false
  | dct {a : Addr} {kvs : List (Key × V)} (h : H a = some (.dK kvs)) : Lty K H (.ref a) false
def spIsList (K : PySem.W.Frag) : Sp := fun vs H Q _ => ∃ x b, vs = [x] ∧ Lty K H x b ∧ ∀ H', Ext H H' → Q (.bl b) H'
theorem ok_isList (F : FnP K "is_list" sIsList f fd) (T : Fre mg) : FnOk P w K mg base CX0 1 f fd ["value"] (spIsList K) := by
  refine F.ok scLi (fun vs H Q E h => by obtain ⟨z, b, rfl, _⟩ := h; rfl) (fun cdv A outer s H vs Q E hr h => ?_)
  obtain ⟨x, b, rfl, hx, hQ⟩ := h
  refine ⟨_, PSs.nox (pss_one (ps_ret (pe_callB call_isiT rfl T.isi boot_isinstance (pa_cons (pv 0) (pa_cons (pe_tup (pa_cons (pe_bltn rfl T.list boot_list (v := .ty "list") rfl) (pa_cons (pe_bltn rfl T.tuple boot_tuple (v := .ty "tuple") rfl) pa_nil))) pa_nil))))), ?_⟩
  refine ⟨_, rfl, by show 2 ≤ sizeLine; decide, fun p hp => ?_⟩
  have e : Ext H (upd H p (.tup [.ty "list", .ty "tuple"])) := Ext.upd hp
  cases hx with
  | lst h => exact ⟨_, p, _, _, [.type "list", .type "tuple"], true, rfl, upd_same, .cons (.ty _) (.cons (.ty _) .nil), .base (.lst (e _ _ h)), kitAny_cons (b := true) (kit_ty (by decide +kernel)) (fun q => by cases q) (fun _ => rfl), hQ _ e⟩
  | tup h => exact ⟨_, p, _, _, [.type "list", .type "tuple"], true, rfl, upd_same, .cons (.ty _) (.cons (.ty _) .nil), .base (.tup (e _ _ h)), kitAny_cons (b := false) (kit_ty (by decide +kernel)) (fun _ => kitAny_cons (b := true) (kit_ty (by decide +kernel)) (fun q => by cases q) (fun _ => rfl)) (fun q => by cases q), hQ _ e⟩
  | non => exact ⟨_, p, _, _, [.type "list", .type "tuple"], false, rfl, upd_same, .cons (.ty _) (.cons (.ty _) .nil), .base .non, kitAny_cons (b := false) (kit_ty (by decide +kernel)) (fun _ => kitAny_cons (b := false) (kit_ty (by decide +kernel)) (fun q => kitAny_nil) (fun q => by cases q)) (fun q => by cases q), hQ _ e⟩
  | int i => exact ⟨_, p, _, _, [.type "list", .type "tuple"], false, rfl, upd_same, .cons (.ty _) (.cons (.ty _) .nil), .base (.int i), kitAny_cons (b := false) (kit_ty (by decide +kernel)) (fun _ => kitAny_cons (b := false) (kit_ty (by decide +kernel)) (fun q => kitAny_nil) (fun q => by cases q)) (fun q => by cases q), hQ _ e⟩
  | str z => exact ⟨_, p, _, _, [.type "list", .type "tuple"], false, rfl, upd_same, .cons (.ty _) (.cons (.ty _) .nil), .base (.str z), kitAny_cons (b := false) (kit_ty (by decide +kernel)) (fun _ => kitAny_cons (b := false) (kit_ty (by decide +kernel)) (fun q => kitAny_nil) (fun q => by cases q)) (fun q => by cases q), hQ _ e⟩
  | dct h => exact ⟨_, p, _, _, [.type "list", .type "tuple"], false, rfl, upd_same, .cons (.ty _) (.cons (.ty _) .nil), .base (.dK (e _ _ h)), kitAny_cons (b := false) (kit_ty (by decide +kernel)) (fun _ => kitAny_cons (b := false) (kit_ty (by decide +kernel)) (fun q => kitAny_nil) (fun q => by cases q)) (fun q => by cases q), hQ _ e⟩
/-! ### split_words -/
theorem scSp : FnScope ["text", "separator", "words"] ["text", "separator"] (defScope sSplit) := ⟨rfl, rfl, rfl, by decide +kernel, rfl, by decide +kernel, by decide +kernel⟩
abbrev SplP (K : PySem.W.Frag) (f : Addr) (fd : FuncData) : Prop := FunD K "split_words" "split_words" (defArgs sSplit) (defBody sSplit) (defScope sSplit) [] [("separator", .str " ")] f fd
def hasNl (z : Str) : Bool := decide (10 ∈ z.cps.toList)
def spSplit : Sp := fun vs H Q _ => ∃ z : Str, vs = [.str z, .str " "] ∧ z.length + 2 ≤ sizeLine ∧ ((hasNl z = true ∨ (Str.empty ∈ Txt.split z " ")) → ∀ H', Ext H H' → Q .non H') ∧
  (hasNl z = false → Str.empty ∉ Txt.split z " " → ∀ p H', H p = none → Ext H H' → H' p = some (.lst ((Txt.split z " ").map V.str)) → Q (.ref p) H')
theorem ok_split (F : SplP K f fd) (T : Fre mg) : FnOk P w K mg base CX0 1 f fd ["text", "separator"] spSplit := by
  refine F.ok scSp (fun vs H Q E h => by obtain ⟨z, rfl, _⟩ := h; rfl) (fun cdv A outer s H vs Q E hr h => ?_)
  obtain ⟨z, rfl, hz, hQ1, hQ2⟩ := h
  refine ⟨_, PSs.nox (pss_cons (ps_if (PW.pt (pw_or (pt_not (pt_val (pe_callB call_isi rfl T.isi boot_isinstance (pa_cons (pv 0) (pa_cons (pe_bltn rfl T.str boot_str (v := .ty "str") rfl) pa_nil)))))
      (pw_or1 (pt_cmpR op_in_sign pe_str (pv 0) rfl)))) (pss_one (ps_ret pe_non)) pss_nil)
    (pss_cons (ps_set (i := 2) scSp.nd rfl (Or.inl rfl) (pe_split (pv 0) (pv 1)))
    (pss_one (ps_ret (pe_ifExp (pt_cmpR op_in_seq pe_str (pv 2) rfl) pe_non (pv 2)))))), ?_⟩
  refine ⟨_, rfl, _, _, _, _, true, rfl, .ty "str", .base (.str _), kit_ty (by decide +kernel), true, rfl, iteF ?_⟩
  refine ⟨_, rfl, 10, z, rfl, rfl, _, rfl, iteB (fun h => ?_) (fun h => ?_)⟩
  · exact hQ1 (.inl h) _ Ext.rfl'
  · refine ⟨_, rfl, ⟨_, rfl⟩, _, rfl, _, _, rfl, rfl, by decide +kernel, hz, fun p hp => ?_⟩
    have e : Ext H (upd H p (.lst ((Txt.split z " ").map V.str))) := Ext.upd hp
    refine ⟨_, rfl, p, _, rfl, Or.inl (SqL.of upd_same), rfl, flatS _, _, rfl, ?_⟩
    show if inV (.str Str.empty) ((Txt.split z " ").map V.str) = true then _ else _
    rw [inV_strs]
    refine ite2 (fun q => ?_) (fun q => ?_)
    · exact hQ1 (.inr (of_decide_eq_true q)) _ e
    · exact ⟨_, rfl, hQ2 h (fun m => q (decide_eq_true m)) p _ hp e upd_same⟩
end
end S78
/-! F2: calls by name; checked_columns; Order. -/
namespace S78
open PySem PySem.Spec PyProof.Rows L2 RP
/-- a def that may be called by its name -/
structure Cl (P : Program) (w : World) (K : PySem.W.Frag) (mg : Str → Option Value) (base : Heap) (CX : CXT) (k : Nat) (x : Str) (sp : Sp) (dvs : List V) : Prop where
  ex : ∃ (f : Addr) (fd : FuncData) (ps : List Str) (ds : List Value), FnOk P w K mg base CX k f fd ps sp ∧ mg x = some (.ref f) ∧ PySem.W.keepIn K (.ref f) = true ∧ Binds K fd ps ds ∧ Vals dvs ds
theorem pe_cl {X : Cx} {CX : CXT} {k j : Nat} {x : Str} {sp : Sp} {dvs : List V} {E : XK} {e : Expr} {es : List Expr} {t : TA} {p pos : Pos} (c : Cl X.prog X.w X.K X.mg X.base CX k x sp dvs) (hr : Room j X.A) (hk : k ≤ j) (hg : Gl X x) (hx : Passes CX X E) (ha : PA X (e :: es) t)
    (hdb : (x == ("__debug__" : Str)) = false := by decide) (he : starEach (e :: es) X.env = (false, eval e X.env) :: starEach es X.env := by rfl) (hpl : (backTo pos (starEach es X.env)).any (·.1) = false := by rfl) : PE X (.Call (.Name x p) (e :: es) [] pos) (tCall sp dvs E t) := by
  obtain ⟨f, fd, ps, ds, F, hm, hkp, hb, hd⟩ := c.ex
  exact pe_call F (hr.mono hk) hg hm hkp hb hd hx ha hdb he hpl
/-- the class Order as it stands -/
structure OrF (K : PySem.W.Frag) (mg : Str → Option Value) (C fI fC fE fS fR : Addr) : Prop where
  cl : Cls K C
  na : NoAttr K C "own_columns"
  mkr : Mk K C fI
  mC : mg "Order" = some (.ref C)
  c1 : PySem.W.findIn K (.ref C) "__class__" = some (some (.builtin "object.__class__"))
  c2 : PySem.W.specialIn K (.builtin "object.__class__") "__get__" = some (some (.builtin "getset_descriptor.__get__"))
  c3 : PySem.W.takesIn K (.builtin "object.__class__") = some true
  c4 : PySem.W.mroIn K C (.type "object") = some true
  kOO : PySem.W.kitOne K (.ref C) (.ref C) = some true
  kSO : PySem.W.kitOne K (.type "str") (.ref C) = some false
  kOS : PySem.W.kitOne K (.ref C) (.type "str") = some false
  kNO : PySem.W.kitOne K (.type "NoneType") (.ref C) = some false
  cols : Meth K C "columns" fC
  eq : Meth K C "__eq__" fE
  st : Meth K C "__str__" fS
  rp : Meth K C "__repr__" fR
abbrev sChk : Stmt := top 19
abbrev sInit : Stmt := inClass (top 20) 0
abbrev sCols : Stmt := inClass (top 20) 1
abbrev sEq : Stmt := inClass (top 20) 5
abbrev sStr : Stmt := inClass (top 20) 6
abbrev sRepr : Stmt := inClass (top 20) 7
theorem scChk : FnScope ["columns", "found", "name"] ["columns"] (defScope sChk) := ⟨rfl, rfl, rfl, by decide +kernel, rfl, by decide +kernel, by decide +kernel⟩
theorem scInit : FnScope ["self", "columns"] ["self", "columns"] (defScope sInit) := ⟨rfl, rfl, rfl, by decide +kernel, rfl, by decide +kernel, by decide +kernel⟩
theorem scCols : FnScope ["self"] ["self"] (defScope sCols) := ⟨rfl, rfl, rfl, by decide +kernel, rfl, by decide +kernel, by decide +kernel⟩
theorem scEq : FnScope ["self", "other"] ["self", "other"] (defScope sEq) := ⟨rfl, rfl, rfl, by decide +kernel, rfl, by decide +kernel, by decide +kernel⟩
theorem scStr : FnScope ["self"] ["self"] (defScope sStr) := ⟨rfl, rfl, rfl, by decide +kernel, rfl, by decide +kernel, by decide +kernel⟩
theorem scRepr : FnScope ["self"] ["self"] (defScope sRepr) := ⟨rfl, rfl, rfl, by decide +kernel, rfl, by decide +kernel, by decide +kernel⟩
section
variable {P : Program} {w : World} {K : PySem.W.Frag} {mg : Str → Option Value} {base : Heap} {f : Addr} {fd : FuncData} {C fI fC fE fS fR : Addr}
def spChk : Sp := fun vs H Q _ => ∃ (l : Addr) (ws : List Str), vs = [.ref l] ∧ H l = some (.lst (ws.map V.str)) ∧ colsB ws = true ∧ ∀ p H', H p = none → Ext H H' → H' p = some (.lst (ws.map V.str)) → Q (.ref p) H'
theorem colsB_get {ws : List Str} (h : colsB ws = true) : 0 < ws.length ∧ ws.length ≤ 5 ∧ (∀ z ∈ ws, nameB z = true) ∧ ws.Nodup := by
  unfold colsB at h
  simp only [Bool.and_eq_true, decide_eq_true_eq, List.all_eq_true] at h
  exact ⟨h.1.1.1, h.1.1.2, h.1.2, h.2⟩
theorem nameB_get {z : Str} (h : nameB z = true) : 0 < z.length ∧ z.length ≤ 8 ∧ ∀ c ∈ z.cps.toList, letterB c = true := by
  unfold nameB at h
  simp only [Bool.and_eq_true, decide_eq_true_eq, List.all_eq_true] at h
  exact ⟨h.1.1, h.1.2, h.2⟩
theorem nodup_get {ws : List Str} (h : ws.Nodup) {i : Nat} {z : Str} (hi : ws[i]? = some z) : z ∉ ws.take i := by
  intro hm
  obtain ⟨j, hj, e⟩ := List.mem_iff_getElem.mp hm
  have hj2 : j < i ∧ j < ws.length := by rw [List.length_take] at hj; omega
  have hil : i < ws.length := by
    rcases Nat.lt_or_ge i ws.length with q | q
    · exact q
    · rw [List.getElem?_eq_none q] at hi; cases hi
  rw [List.getElem_take] at e
  rw [List.getElem?_eq_getElem hil] at hi
  have e2 : ws[j] = ws[i] := e.trans (Option.some.inj hi).symm
  have := (List.getElem_inj (h₀ := hj2.2) (h₁ := hil) h).mp e2
  omega
theorem map_get {ws : List Str} {i : Nat} {x : V} (h : (ws.map V.str)[i]? = some x) : ∃ z, x = .str z ∧ ws[i]? = some z := by
  rw [List.getElem?_map] at h
  cases e : ws[i]? with
  | none => rw [e] at h; cases h
  | some c => rw [e] at h; exact ⟨c, (Option.some.inj h).symm, rfl⟩
theorem prs_strs {H : Hp} (ws : List Str) : Prs DFlat (ws.map V.str) (ws.map V.str) H := ⟨rfl, fun i x y hx hy => by
  rw [hx] at hy
  obtain ⟨z, rfl, _⟩ := map_get hx
  rw [← Option.some.inj hy]
  exact ⟨rfl, rfl, by show (z == z) = true; simp⟩⟩
theorem sum_le {ws : List Str} {n : Nat} (h : ∀ z ∈ ws, z.length ≤ n) : (ws.map (·.length)).sum ≤ ws.length * n := by
  induction ws with
  | nil => simp
  | cons z ws ih =>
    have h1 := h z (.head _)
    have h2 := ih fun y hy => h y (.tail _ hy)
    simp only [List.map_cons, List.sum_cons, List.length_cons]
    rw [Nat.add_mul]
    omega
theorem colsB_sum {ws : List Str} (h : colsB ws = true) : (ws.map (·.length)).sum + ws.length * (Str.length " ") ≤ 16777216 := by
  obtain ⟨h1, h2, h3, h4⟩ := colsB_get h
  have := sum_le (ws := ws) (n := 8) fun z hz => (nameB_get (h3 z hz)).2.1
  have e : Str.length " " = 1 := by decide
  rw [e]
  omega
theorem ok_chk (F : FnP K "checked_columns" sChk f fd) (T : Fre mg) (Cs : Cst mg) (GL : Cl P w K mg base CX0 1 "is_list" (spIsList K) []) (GN : Cl P w K mg base CX0 1 "is_name" spIsName []) : FnOk P w K mg base CX0 2 f fd ["columns"] spChk := by
  refine F.ok scChk (fun vs H Q E h => by obtain ⟨z, ws, rfl, _⟩ := h; rfl) (fun cdv A outer s H vs Q E hr h => ?_)
  obtain ⟨l, ws, rfl, hl, hw, hQ⟩ := h
  obtain ⟨h1, h2, h3, h4⟩ := colsB_get hw
  refine ⟨_, PSs.nox (pss_cons (ps_if (PW.pt (pw_or (pt_not (pt_val (pe_cl GL hr (Nat.le_refl _) rfl pass0 (pa_cons (pv 0) pa_nil)))) (pw_or1 (pt_not (pt_chain op_le op_le pe_int (pe_callB call_len_seq rfl T.len boot_len (pa_cons (pv 0) pa_nil)) (pe_cst rfl (cst_int Cs.mc))))))) (pss_one ps_never) pss_nil)
    (pss_cons (ps_set (i := 1) scChk.nd rfl (Or.inl rfl) (pe_lst pa_nil))
    (pss_cons (ps_for PassesOwn.never rfl (pi_list (pv 0)) (pg_name (i := 2) scChk.nd rfl (Or.inl rfl))
      (pss_cons (ps_if (pt_not (pt_val (pe_cl GN hr (Nat.le_refl _) rfl pass0 (pa_cons (pv 2) pa_nil)))) (pss_one ps_never) pss_nil)
      (pss_cons (ps_if (pt_cmpR op_in_seq (pv 2) (pv 1) rfl) (pss_one ps_never) pss_nil)
      (pss_one (ps_expr (pe_bm PySem.F.plainAttrs_list PySem.F.slot_list_append PySem.F.type_list_append mt_append (pv 1) (pa_cons (pv 2) pa_nil)))))))
    (pss_one (ps_ret (pv 1)))))), ?_⟩
  refine ⟨_, rfl, _, true, rfl, .lst hl, fun H1 e1 => ⟨true, rfl, ?_⟩⟩
  refine iteF ⟨_, rfl, l, _, rfl, .inl (SqL.of (e1 _ _ hl)), _, _, rfl, rfl, _, rfl, ?_⟩
  have a1 : decide ((1 : Int) ≤ ((ws.map V.str).length : Nat)) = true := by rw [List.length_map, decide_eq_true_eq]; omega
  have a2 : decide (((ws.map V.str).length : Nat) ≤ (5 : Int)) = true := by rw [List.length_map, decide_eq_true_eq]; omega
  rw [a1]
  refine iteT ⟨_, _, rfl, rfl, _, rfl, ?_⟩
  rw [a2]
  refine iteF ⟨by decide, fun D hD => ?_⟩
  refine ⟨_, rfl, l, rfl, ⟨_, SqL.of ((ext_set e1 (ext_none e1 hD)) _ _ hl)⟩, ?_⟩
  have hDn : H D = none := ext_none e1 hD
  refine for_list (xs := ws.map V.str) (fun i σ H2 => ∃ n, σ = [some (.ref l), some (.ref D), n] ∧ Ext H H2 ∧ H2 D = some (.lst ((ws.take i).map V.str))) ?_ ?_ ?_ ?_
  · exact ⟨_, rfl, ext_set e1 hDn, upd_same⟩
  · rintro i σ H2 hi ⟨n, rfl, e2, _⟩
    exact SqL.of (e2 _ _ hl)
  · rintro i x σ H2 hx ⟨n, rfl, e2, hD2⟩
    obtain ⟨z, rfl, hz⟩ := map_get hx
    have hzm : z ∈ ws := List.mem_of_getElem? hz
    refine ⟨_, rfl, z, rfl, ?_, fun H3 e3 => ⟨nameB z, rfl, ?_⟩⟩
    · have := (nameB_get (h3 z hzm)).2.1; exact Nat.le_trans this (by decide)
    rw [h3 z hzm]
    refine iteF ⟨_, rfl, _, rfl, D, _, rfl, .inl (SqL.of (e3 _ _ hD2)), rfl, flatS _, _, rfl, ?_⟩
    show if inV (.str z) ((ws.take i).map V.str) = true then _ else _
    rw [inV_strs, decide_eq_false (nodup_get h4 hz)]
    refine iteF ⟨_, rfl, .inl ⟨rfl, _, SqL.of (e3 _ _ hD2)⟩, _, rfl, ?_⟩
    have ht : ws.take (i + 1) = ws.take i ++ [z] := by rw [List.take_add_one, hz]; rfl
    refine ⟨D, _, _, rfl, rfl, e3 _ _ hD2, ?_, some (.str z), rfl, ext_set (e2.trans e3) hDn, ?_⟩
    · rw [List.length_map, List.length_take]; exact Nat.lt_of_le_of_lt (Nat.le_trans (Nat.min_le_right _ _) h2) (by decide)
    · rw [ht, List.map_append]; exact upd_same
  · rintro σ H2 ⟨n, rfl, e2, hD2⟩
    refine ⟨_, rfl, hQ D H2 hDn e2 ?_⟩
    rw [hD2, List.length_map, List.take_length]
/-! ### Order -/
def spInit (C : Addr) : Sp := fun vs H Q _ => ∃ (a dx l : Addr) (ws : List Str), vs = [.ref a, .ref l] ∧ H a = some (.ins C dx []) ∧ H l = some (.lst (ws.map V.str)) ∧ colsB ws = true ∧
  ∀ p H', H p = none → KpB a H H' → H' a = some (.ins C dx [("own_columns", .ref p)]) → H' p = some (.lst (ws.map V.str)) → Q .non H'
theorem ok_init (F : MtP K "__init__" "Order.__init__" sInit f fd) (O : OrF K mg C fI fC fE fS fR) (GC : Cl P w K mg base CX0 2 "checked_columns" spChk []) : FnOk P w K mg base CX0 3 f fd ["self", "columns"] (spInit C) := by
  refine F.ok scInit (fun vs H Q E h => by obtain ⟨a, dx, l, ws, rfl, _⟩ := h; rfl) (fun cdv A outer s H vs Q E hr h => ?_)
  obtain ⟨a, dx, l, ws, rfl, ha, hl, hw, hQ⟩ := h
  refine ⟨_, PSs.nox (pss_one (ps_fld (pv 0) (pe_cl GC hr (Nat.le_refl _) rfl pass0 (pa_cons (pv 1) pa_nil)) rfl)), ?_⟩
  refine ⟨_, rfl, l, ws, rfl, hl, hw, fun p H1 hp e1 h1 => ⟨_, rfl, a, C, dx, _, rfl, e1 _ _ ha, O.cl, O.na, ?_, ?_⟩⟩
  · show 0 + 1 ≤ _; first | decide | skip
  · have hn : p ≠ a := fun z => by rw [z, ha] at hp; cases hp
    exact hQ p _ hp ((KpB.of e1).trans .at) upd_same (by rw [upd_ne hn]; exact h1)
def spCols (C : Addr) : Sp := fun vs H Q _ => ∃ (a : Addr) (ws : List Str), vs = [.ref a] ∧ Ord C An H a ws ∧ ∀ p H', H p = none → Ext H H' → H' p = some (.lst (ws.map V.str)) → Q (.ref p) H'
theorem ok_cols (F : MtP K "columns" "Order.columns" sCols f fd) (T : Fre mg) (O : OrF K mg C fI fC fE fS fR) : FnOk P w K mg base CX0 1 f fd ["self"] (spCols C) := by
  refine F.ok scCols (fun vs H Q E h => by obtain ⟨a, ws, rfl, _⟩ := h; rfl) (fun cdv A outer s H vs Q E hr h => ?_)
  obtain ⟨a, ws, rfl, ⟨dx, l, _, _, ha, hl⟩, hQ⟩ := h
  refine ⟨_, PSs.nox (pss_one (ps_ret (pe_callTy call_list_of rfl T.list boot_list (pa_cons (pe_fld (pv 0) rfl) pa_nil)))), ?_⟩
  exact ⟨_, rfl, a, C, dx, _, _, rfl, ha, O.cl, O.na, rfl, l, _, rfl, .inl (SqL.of hl), fun p hp => hQ p _ hp (Ext.upd hp) upd_same⟩
/-- two orders of the same columns -/
def EqO (C : Addr) (a b : Addr) (H : Hp) : Prop := ∃ ws, Ord C An H a ws ∧ Ord C An H b ws
theorem ok_eq (F : MtP K "__eq__" "Order.__eq__" sEq f fd) (T : Fre mg) (O : OrF K mg C fI fC fE fS fR) {fdC : FuncData} (GC : FnOk P w K mg base CX0 1 fC fdC ["self"] (spCols C)) (bC : Binds K fdC ["self"] []) : FnOk P w K mg base CX0 2 f fd ["self", "other"] (spEq (EqO C)) := by
  refine F.ok scEq (fun vs H Q E h => by obtain ⟨a, b, rfl, _⟩ := h; rfl) (fun cdv A outer s H vs Q E hr h => ?_)
  obtain ⟨a, b, rfl, ⟨ws, oa, ob⟩, hQ⟩ := h
  obtain ⟨dx, l, _, _, ha, hl⟩ := id oa
  obtain ⟨dy, m, _, _, hb, hm⟩ := id ob
  refine ⟨_, PSs.nox (pss_one (ps_ret (pe_and (pe_callB call_isi rfl T.isi boot_isinstance (pa_cons (pv 1) (pa_cons (pe_glob rfl O.mC (v := .ref C) rfl) pa_nil)))
    (pe_one (pe_cmpR (op_eqG (rcG_list mon_flat eqG_flat) hr) (pe_fld (pv 0) rfl) (pe_meth0 (pv 1) O.cl O.cols GC hr bC .nil pass0) rfl))))), ?_⟩
  refine ⟨_, rfl, _, _, _, _, true, rfl, .own C, .base (.ins hb O.cl O.c1 O.c2 O.c3 O.c4), O.kOO, true, rfl, iteT ?_⟩
  refine ⟨_, rfl, a, C, dx, _, _, rfl, ha, O.cl, O.na, rfl, _, rfl, b, dy, _, rfl, hb, rfl, b, ws, rfl, ob, fun p H1 hp e1 h1 => ?_⟩
  exact ⟨⟨l, p, _, _, rfl, rfl, e1 _ _ hl, h1, prs_strs ws⟩, fun H2 e2 => hQ _ (e1.trans e2)⟩
def spStr (C : Addr) : Sp := fun vs H Q _ => ∃ (a : Addr) (ws : List Str), vs = [.ref a] ∧ Ord C An H a ws ∧ colsB ws = true ∧ ∀ H', Ext H H' → Q (.str (Txt.join " " ws)) H'
theorem ok_str (F : MtP K "__str__" "Order.__str__" sStr f fd) (O : OrF K mg C fI fC fE fS fR) : FnOk P w K mg base CX0 1 f fd ["self"] (spStr C) := by
  refine F.ok scStr (fun vs H Q E h => by obtain ⟨a, ws, rfl, _⟩ := h; rfl) (fun cdv A outer s H vs Q E hr h => ?_)
  obtain ⟨a, ws, rfl, ⟨dx, l, _, _, ha, hl⟩, hw, hQ⟩ := h
  refine ⟨_, PSs.nox (pss_one (ps_ret (pe_join pe_str (pe_fld (pv 0) rfl)))), ?_⟩
  exact ⟨⟨_, rfl⟩, _, rfl, a, C, dx, _, _, rfl, ha, O.cl, O.na, rfl, _, l, ws, rfl, rfl, .inl (SqL.of hl), colsB_sum hw, hQ _ Ext.rfl'⟩
theorem textFrom_up : ∀ (ts : List Str) (k : Nat) (acc : Str), (textFrom k acc ts).length ≤ acc.length + piled ts
  | [], k, acc => by show acc.length ≤ _; omega
  | t :: ts, k, acc => by
    have ih := textFrom_up ts (k + 1) (acc ++ (if k > 0 then ", " else "" : String) ++ t)
    rw [piled_cons]
    rw [strLen_append, strLen_append] at ih
    have e : (Str.ofString (if k > 0 then ", " else "" : String)).length ≤ 2 := by split <;> decide
    show (textFrom (k + 1) (acc ++ (if k > 0 then ", " else "" : String) ++ t) ts).length ≤ _
    omega
theorem piled_up {m : Nat} : ∀ (ts : List Str), (∀ t ∈ ts, t.length ≤ m) → piled ts ≤ ts.length * (m + 2)
  | [], _ => by simp [piled]
  | t :: ts, h => by
    have h1 := h t (.head _)
    have h2 := piled_up ts fun y hy => h y (.tail _ hy)
    rw [piled_cons, List.length_cons, Nat.add_mul]
    omega
theorem repr_up {z : Str} (h : z.length ≤ 8) (hl : ∀ c ∈ z.cps.toList, letterB c = true) : (reprText z).length ≤ 82 := by
  have h2 : ∀ c ∈ z.cps.toList, c < 16 ^ 8 := fun c hc => by
    have h3 : c ∈ ("abcdefghijklmnopqrstuvwxyz" : Str).cps.toList := of_decide_eq_true (hl c hc)
    have h4 : ∀ d ∈ ("abcdefghijklmnopqrstuvwxyz" : Str).cps.toList, d < 16 ^ 8 := by decide +kernel
    exact h4 c h3
  have := StrLaws.reprText_len z h2
  omega
theorem list_up {ws : List Str} (h2 : ws.length ≤ 5) (h : ∀ z ∈ ws, z.length ≤ 8) (hr : ∀ z ∈ ws, (reprText z).length ≤ 82) : (listText (ws.map reprText)).length ≤ 500 := by
  have h3 := textFrom_up (ws.map reprText) 0 "["
  have h4 := piled_up (m := 82) (ws.map reprText) fun t ht => by
    obtain ⟨z, hz, rfl⟩ := List.mem_map.mp ht
    exact hr z hz
  rw [List.length_map] at h4
  show (textFrom 0 "[" (ws.map reprText) ++ "]").length ≤ 500
  rw [strLen_append]
  have e1 : (Str.ofString "[").length = 1 := by decide
  have e2 : (Str.ofString "]").length = 1 := by decide
  rw [e1] at h3
  rw [e2]
  have : ws.length * (82 + 2) ≤ 5 * 84 := Nat.mul_le_mul_right _ h2
  omega
/-- how an order is shown -/
def shown (ws : List Str) : Str := "Order(" ++ listText (ws.map reprText) ++ ")"
/-- the list of its columns is not being shown -/
def GRepr (C : Addr) : List Code → List V → Hp → Prop := fun g vs H => ∃ (a dx l : Addr), vs = [.ref a] ∧ H a = some (.ins C dx [("own_columns", .ref l)]) ∧ Clear g l
def RShow (C : Addr) (a : Addr) (t : Str) (H : Hp) : Prop := ∃ ws, Ord C An H a ws ∧ colsB ws = true ∧ t = shown ws
theorem ok_repr (F : MtP K "__repr__" "Order.__repr__" sRepr f fd) (O : OrF K mg C fI fC fE fS fR) : FnG P w K mg base CX0 3 f fd ["self"] (GRepr C) (spRp (RShow C)) := by
  refine fn_g F scRepr (fun vs H Q E h => by obtain ⟨a, t, rfl, _⟩ := h; rfl) (fun cdv A g outer s H vs Q E hg hG hr h => ?_)
  obtain ⟨a, t, rfl, ⟨ws, ⟨dx, l, _, _, ha, hl⟩, hw, rfl⟩, hQ⟩ := h
  obtain ⟨a', dx', l', e, ha', hcl⟩ := hG
  cases e
  rw [ha] at ha'
  cases ha'
  refine ⟨_, PSs.nox (pss_one (ps_ret (pe_joined (.cons pe_str (.cons (pe_fmtRl (g := g) hg hr (pe_fld (pv 0) rfl)) (.cons pe_str .nil)))))), ?_⟩
  obtain ⟨h1, h2, h3, h4⟩ := colsB_get hw
  have b1 := list_up (ws := ws) h2 fun z hz => (nameB_get (h3 z hz)).2.1
  have b2 : ∀ z ∈ ws, (reprText z).length ≤ 82 := fun z hz => repr_up (nameB_get (h3 z hz)).2.1 (nameB_get (h3 z hz)).2.2
  have b3 := b1 b2
  refine ⟨_, rfl, by decide, _, rfl, a, C, dx, _, _, rfl, ha, O.cl, O.na, rfl, l, ws.map V.str, ws.map reprText, rfl, hl, ?_, hcl, ⟨by simp, fun i x hx => ?_⟩, ?_, fun H' e' => ?_⟩
  · intro z; rw [List.map_eq_nil_iff] at z; rw [z] at h1; simp at h1
  · obtain ⟨z, rfl, hz⟩ := map_get hx
    refine ⟨reprText z, by rw [List.getElem?_map, hz]; rfl, rp_str ?_⟩
    exact Nat.le_trans (b2 z (List.mem_of_getElem? hz)) (by decide)
  · exact Nat.le_trans b3 (by decide)
  · refine ⟨_, rfl, ?_, _, rfl, ?_, ?_⟩
    · rw [strLen_append, strLen_append]
      exact Nat.le_trans (Nat.add_le_add (show _ ≤ 6 by decide) b3) (by decide)
    · rw [strLen_append, strLen_append, strLen_append]
      exact Nat.le_trans (Nat.add_le_add (Nat.add_le_add (show _ ≤ 6 by decide) b3) (show _ ≤ 1 by decide)) (by decide)
    · have e : Str.empty ++ Str.ofString "Order(" ++ listText (ws.map reprText) ++ Str.ofString ")" = shown ws := by
        unfold shown
        congr 2
      show Q (.str _) H'
      rw [e]
      exact hQ H' e'
end
end S78
/-! F3: the own exceptions; Order(..); parse_order. -/
namespace S78
open PySem PySem.Spec PyProof.Rows L2 SN HotX L2H
section
variable {P : Program} {w : World} {K : PySem.W.Frag} {mg : Str → Option Value} {base : Heap} {f : Addr} {fd : FuncData} {C fI fC fE fS fR : Addr}
/-! ### exceptions -/
def spEI (C : Addr) (fn : Str) : Sp := fun vs H Q _ => ∃ (a : Addr) (v : V), vs = [.ref a, v] ∧ H a = some (exo a C none) ∧ ∀ dx, H dx = none → dx ≠ a → Q .non (upd (upd H dx (exd dx [(fn, v)])) a (exo a C (some dx)))
theorem fn_anyD {x qual : Str} {params : Arguments} {body : List Stmt} {scope : Scope} {dvs : List V} {kws : List (Str × V)} {k : Nat} {N ps : List Str} {sp : Sp} (F : FunD K x qual params body scope dvs kws f fd) (S : FnScope N ps scope) (len : ∀ vs H Q E, sp vs H Q E → vs.length = ps.length)
    (hbody : ∀ (cdv : Value) (A : Around) (outer : List Env) (s : Shared) (H : Hp) (vs : List V) (Q : VK), RoomH k (A.deeper (envOfC qual scope s.heap.objs.size f cdv)) → sp vs H Q (fun _ _ _ => False) →
      ∃ t, PSs (XP.cxA P w K mg base N qual scope f cdv A outer s H) body t ∧ t { nx := fun _ H' => Q .non H', rt := Q } (L2.start N vs) H) : XP.FnA P w K mg base (k + 1) f fd ps sp := by
  obtain ⟨oc, od, dV, kV, doc, pm, an, cdv, ct, osl, rfl, lk, hcd, _, _⟩ := F.ex
  exact XP.fn_any lk hcd S len fun A outer s H vs Q hr hsp => hbody cdv A outer s H vs Q hr hsp
/-- an own exception class as it stands; p its parameter, fn its field -/
structure ExF (P : Program) (w : World) (K : PySem.W.Frag) (mg : Str → Option Value) (base : Heap) (x fn : Str) (C : Addr) : Prop where
  T : OexC K C
  hm : mg x = some (.ref C)
  ex : ∃ (fI : Addr) (fd : FuncData) (ps : List Str), PySem.W.findIn K (.ref C) "__init__" = some (some (.ref fI)) ∧ PySem.W.typeIn K (.ref fI) = some (.type "function") ∧ XP.FnA P w K mg base 1 fI fd ps (spEI C fn) ∧ Binds K fd ps []
abbrev sIT : Stmt := inClass (top 6) 0
abbrev sIS : Stmt := inClass (top 9) 0
abbrev sIL : Stmt := inClass (top 10) 0
theorem scIT : FnScope ["self", "value"] ["self", "value"] (defScope sIT) := ⟨rfl, rfl, rfl, by decide +kernel, rfl, by decide +kernel, by decide +kernel⟩
theorem scIS : FnScope ["self", "value"] ["self", "value"] (defScope sIS) := ⟨rfl, rfl, rfl, by decide +kernel, rfl, by decide +kernel, by decide +kernel⟩
theorem scIL : FnScope ["self", "index"] ["self", "index"] (defScope sIL) := ⟨rfl, rfl, rfl, by decide +kernel, rfl, by decide +kernel, by decide +kernel⟩
theorem ok_IT {B : Addr} (F : MtP K "__init__" "InvalidText.__init__" sIT f fd) (T : OexC K C) (hno : PySem.W.findIn K (.ref C) "value" = some none) (BI : XP.BInit K B) (mB : mg "SearchError" = some (.ref B)) : XP.FnA P w K mg base 1 f fd ["self", "value"] (spEI C "value") := by
  refine fn_anyD F scIT (fun vs H Q E h => by obtain ⟨a, v, rfl, _⟩ := h; rfl) (fun cdv A outer s H vs Q hr h => ?_)
  obtain ⟨a, v, rfl, ha, hQ⟩ := h
  refine ⟨_, pss_cons (ps_expr (XP.pe_binit BI rfl mB (pa_cons (pv 0) (pa_cons pe_str pa_nil)))) (pss_one (ps_ost (pv 0) (pv 1))), ?_⟩
  refine ⟨_, rfl, a, C, _, rfl, by show 1 ≤ 1000; decide, T, ha, _, rfl, _, rfl, a, C, rfl, T, hno, .inl ⟨ha, fun dx h1 h2 => hQ dx h1 h2⟩⟩
theorem ok_IS {B : Addr} (F : MtP K "__init__" "InvalidSteps.__init__" sIS f fd) (T : OexC K C) (hno : PySem.W.findIn K (.ref C) "value" = some none) (BI : XP.BInit K B) (mB : mg "SearchError" = some (.ref B)) : XP.FnA P w K mg base 1 f fd ["self", "value"] (spEI C "value") := by
  refine fn_anyD F scIS (fun vs H Q E h => by obtain ⟨a, v, rfl, _⟩ := h; rfl) (fun cdv A outer s H vs Q hr h => ?_)
  obtain ⟨a, v, rfl, ha, hQ⟩ := h
  refine ⟨_, pss_cons (ps_expr (XP.pe_binit BI rfl mB (pa_cons (pv 0) (pa_cons pe_str pa_nil)))) (pss_one (ps_ost (pv 0) (pv 1))), ?_⟩
  refine ⟨_, rfl, a, C, _, rfl, by show 1 ≤ 1000; decide, T, ha, _, rfl, _, rfl, a, C, rfl, T, hno, .inl ⟨ha, fun dx h1 h2 => hQ dx h1 h2⟩⟩
theorem ok_IL {B : Addr} (F : MtP K "__init__" "InvalidLine.__init__" sIL f fd) (T : OexC K C) (hno : PySem.W.findIn K (.ref C) "index" = some none) (BI : XP.BInit K B) (mB : mg "SearchError" = some (.ref B)) : XP.FnA P w K mg base 1 f fd ["self", "index"] (spEI C "index") := by
  refine fn_anyD F scIL (fun vs H Q E h => by obtain ⟨a, v, rfl, _⟩ := h; rfl) (fun cdv A outer s H vs Q hr h => ?_)
  obtain ⟨a, v, rfl, ha, hQ⟩ := h
  refine ⟨_, pss_cons (ps_expr (XP.pe_binit BI rfl mB (pa_cons (pv 0) (pa_cons pe_str pa_nil)))) (pss_one (ps_ost (pv 0) (pv 1))), ?_⟩
  refine ⟨_, rfl, a, C, _, rfl, by show 1 ≤ 1000; decide, T, ha, _, rfl, _, rfl, a, C, rfl, T, hno, .inl ⟨ha, fun dx h1 h2 => hQ dx h1 h2⟩⟩
/-- the exception is new; nothing else is changed -/
def ExNew (C : Addr) (fn : Str) (v : V) (H : Hp) (E : XK) : Prop := ∀ d H', Ext H H' → H d = none → H' d = some (.xd [(fn, v)]) → E (.ref C) (some d) H'
/-- C(e) made to be raised -/
theorem pmk_ex {X : Cx} {x fn : Str} {e : Expr} {te : TE} {p pos : Pos} (T : ExF X.prog X.w X.K X.mg X.base x fn C) (hr : RoomH 2 X.A) (hg : Gl X x) (he : PE X e te) (hdb : (x == ("__debug__" : Str)) = false := by decide)
    (hst : starEach [e] X.env = (false, eval e X.env) :: starEach [] X.env := by rfl) : PMk5 X (.Call (.Name x p) [e] [] pos) (tMkO C (spEI C fn) [] (tCons te tNil)) := by
  obtain ⟨fI, fd, ps, h1, h2, h3, h4⟩ := T.ex
  exact XP.pmk_any T.T h1 h2 h3 hr h4 hg T.hm (pa_cons he pa_nil (hs := hst)) hdb hst
/-- what stands behind e in that reading -/
theorem ex_made {fn : Str} {v : V} {H : Hp} {E : XK} (h : ExNew C fn v H E) : [v].length ≤ 1000 ∧ ∀ a, H a = none → spEI C fn (.ref a :: ([v] ++ [])) (upd H a (exo a C none))
    (fun z H2 => z = .non ∧ ∃ (d : Addr) (fs : List (Str × V)), H2 a = some (exo a C (some d)) ∧ H2 d = some (exd d fs) ∧ H d = none ∧ E (.ref C) (some d) (upd (del H2 a) d (.xd fs))) (fun _ _ _ => False) := by
  refine ⟨by show 1 ≤ 1000; decide, fun a ha => ⟨a, v, rfl, upd_same, fun dx h1 h2 => ⟨rfl, dx, [(fn, v)], upd_same, ?_, ?_, ?_⟩⟩⟩
  · rw [upd_ne h2, upd_same]
  · rw [upd_ne h2] at h1; exact h1
  · rw [upd_ne h2] at h1
    refine h dx _ (fun b o e => ?_) h1 upd_same
    have n1 : b ≠ dx := ne_of_none e h1
    have n2 : b ≠ a := ne_of_none e ha
    rw [upd_ne n1, del_ne n2, upd_ne n2, upd_ne n1, upd_ne n2]
    exact e
/-! ### Order(..) -/
structure MkOr (P : Program) (w : World) (K : PySem.W.Frag) (mg : Str → Option Value) (base : Heap) (C : Addr) : Prop where
  ex : ∃ (fI : Addr) (fd : FuncData) (ps : List Str), Mk K C fI ∧ FnOk P w K mg base CX0 3 fI fd ps (spInit C) ∧ mg "Order" = some (.ref C) ∧ Binds K fd ps []
def tOrd (C : Addr) (te : TE) : TE := tMake C (spInit C) [] E0 (tCons te tNil)
theorem pe_order {X : Cx} {e : Expr} {te : TE} {j : Nat} {p pos : Pos} (M : MkOr X.prog X.w X.K X.mg X.base C) (hr : Room j X.A) (hj : 4 ≤ j) (hg : Gl X "Order") (he : PE X e te) (hst : starEach [e] X.env = (false, eval e X.env) :: starEach [] X.env := by rfl) : PE X (.Call (.Name "Order" p) [e] [] pos) (tOrd C te) := by
  obtain ⟨fI, fd, ps, h1, h2, h3, h4⟩ := M.ex
  exact pe_make h1 h2 (hr.mono hj) hg h3 h4 .nil pass0 (pa_cons he pa_nil (hs := hst)) (by decide) hst
/-- what stands behind e there -/
def NewOrd (C : Addr) (ws : List Str) (H : Hp) (Q : VK) : Prop := ∀ a H', Ext H H' → Ord C (fun b => H b = none) H' a ws → Q (.ref a) H'
theorem ord_made {l : Addr} {ws : List Str} {H : Hp} {Q : VK} (hl : H l = some (.lst (ws.map V.str))) (hw : colsB ws = true) (h : NewOrd C ws H Q) :
    ∀ x dx, H x = none → H dx = none → dx ≠ x → spInit C (.ref x :: ([.ref l] ++ [])) (upd (upd H dx (.own x)) x (.ins C dx [])) (fun v H2 => v = .non ∧ Q (.ref x) H2) E0 := by
  intro x dx hx hdx hne
  have n1 : l ≠ x := ne_of_none hl hx
  have n2 : l ≠ dx := ne_of_none hl hdx
  refine ⟨x, dx, l, ws, rfl, upd_same, by rw [upd_ne n1, upd_ne n2]; exact hl, hw, fun p H' hp k h1 h2 => ⟨rfl, h x H' (fun b o e => ?_) ⟨dx, p, hx, ?_, h1, h2⟩⟩⟩
  · have m1 : b ≠ x := ne_of_none e hx
    have m2 : b ≠ dx := ne_of_none e hdx
    exact k b o m1 (by rw [upd_ne m1, upd_ne m2]; exact e)
  · have m1 : p ≠ x := fun z => by rw [z, upd_same] at hp; cases hp
    have m2 : p ≠ dx := fun z => by rw [z, upd_ne hne, upd_same] at hp; cases hp
    rw [upd_ne m1, upd_ne m2] at hp
    exact hp
/-! ### parse_order -/
abbrev sPO : Stmt := top 21
theorem scPO : FnScope ["text", "words", "word"] ["text"] (defScope sPO) := ⟨rfl, rfl, rfl, by decide +kernel, rfl, by decide +kernel, by decide +kernel⟩
/-- the columns that a text tells -/
def pOrd (z : Str) : Option (List Str) := if hasNl z = false ∧ Str.empty ∉ Txt.split z " " ∧ colsB (Txt.split z " ") = true then some (Txt.split z " ") else none
def spPO (C IT : Addr) : Sp := fun vs H Q E => ∃ z : Str, vs = [.str z] ∧ z.length + 2 ≤ sizeLine ∧ (∀ ws, pOrd z = some ws → NewOrd C ws H Q) ∧ (pOrd z = none → ExNew IT "value" (.str z) H E)
/-- what the set of the first texts holds -/
def keyS (xs : List Str) : Key → Bool
  | .inl _ => false
  | .inr x => memS xs x
theorem keyS_add {xs : List Str} {z : Str} : (fun j => keyS xs j || decide (j = (Sum.inr z : Key))) = keyS (xs ++ [z]) := by
  funext j
  cases j with
  | inl i => simp [keyS]
  | inr x =>
    show (memS xs x || decide ((Sum.inr x : Key) = Sum.inr z)) = memS (xs ++ [z]) x
    simp only [memS, List.mem_append, List.mem_singleton]
    rw [Bool.eq_iff_iff]
    simp
theorem keyS_len {xs : List Str} {z : Str} : (if keyS xs (Sum.inr z) = true then (dd xs).length else (dd xs).length + 1) = (dd (xs ++ [z])).length := by
  rw [dd_snoc]
  by_cases hm : z ∈ dd xs
  · have hm2 : keyS xs (Sum.inr z) = true := decide_eq_true (mem_dd.mp hm)
    rw [if_pos hm, if_pos hm2]
  · have hm2 : ¬ keyS xs (Sum.inr z) = true := fun q => hm (mem_dd.mpr (of_decide_eq_true q))
    rw [if_neg hm, if_neg hm2, List.length_append]
    rfl
/-- {x for x in xs} of a few texts -/
theorem sc_texts {P : Program} {w : World} {K : PySem.W.Frag} {a : Addr} {xs : List Str} {te : TE} {j : Nat} {σ : L2.St} {H1 : Hp} {D : Addr} {Qd : Hp → Prop} (hD : H1 D = none) (hL : SqL K H1 a (xs.map V.str)) (hz : xs.length ≤ 16)
    (hs : ∀ (i : Nat) (z : Str) (H : Hp), xs[i]? = some z → Ext H1 H → ∀ Qe : VK, Qe (.str z) H → te ((wipe σ [j]).set j (some (.str z))) H Qe)
    (hd : ∀ H, Ext H1 H → H D = some (SetK P w D (keyS xs) (dd xs).length) → Qd H) :
    ∃ W : Nat → Nat → Hp → Prop, (∃ m, W 0 m (upd H1 D (SetK P w D (fun _ => false) 0))) ∧ ∀ i m H, W i m H →
      ((Itl K a).stop i H ∧ Qd H) ∨ ((Itl K a).go i H ∧ ∃ Nx : Hp → Prop, (∀ H', Nx H' → ∃ m', m' < m ∧ W (i + 1) m' H') ∧ ∀ x H', (Itl K a).yld i H x H' → gName j x (wipe σ [j]) H' fun σ2 H2 => wipe σ2 [j] = wipe σ [j] ∧ tYes σ2 H2 fun b H3 =>
        if b = true then te σ2 H3 fun y H4 => ∃ (c : Key) (S : Key → Bool) (n : Nat), y = kV c ∧ H4 D = some (SetK P w D S n) ∧ n + 1 < scanBound ∧ Nx (upd H4 D (SetK P w D (fun j => S j || decide (j = c)) (if S c = true then n else n + 1))) else Nx H3) := by
  have len : ∀ i, (xs.take i).length ≤ xs.length := fun i => by rw [List.length_take]; omega
  refine ⟨fun i m H => m = xs.length - i ∧ i ≤ xs.length ∧ Ext H1 H ∧ H D = some (SetK P w D (keyS (xs.take i)) (dd (xs.take i)).length), ⟨xs.length, by simp, Nat.zero_le _, ext_set Ext.rfl' hD, ?_⟩, ?_⟩
  · rw [upd_same, List.take_zero]
    have e : keyS [] = fun _ => false := by
      funext j
      cases j <;> simp [keyS, memS]
    rw [e]
    rfl
  rintro i m H ⟨rfl, hi, e, h⟩
  have q : SqL K H a (xs.map V.str) := Same.seq e hL
  by_cases hlt : i < xs.length
  · have hx : (xs.map V.str)[i]? = some (.str xs[i]) := by rw [List.getElem?_map, List.getElem?_eq_getElem hlt]; rfl
    have ht : xs.take (i + 1) = xs.take i ++ [xs[i]] := by rw [List.take_add_one, List.getElem?_eq_getElem hlt]; rfl
    refine .inr ⟨⟨_, _, q, hx⟩, fun H' => Ext H1 H' ∧ H' D = some (SetK P w D (keyS (xs.take (i + 1))) (dd (xs.take (i + 1))).length), fun H' p' => ⟨xs.length - (i + 1), by omega, rfl, hlt, p'⟩, fun x H' y => ?_⟩
    obtain ⟨rfl, y⟩ := y
    have y2 := y _ q
    rw [hx] at y2
    cases y2
    refine ⟨set_wipe σ j _, ?_⟩
    dsimp only [tYes]
    rw [if_pos rfl]
    refine hs i xs[i] H' (List.getElem?_eq_getElem hlt) e _ ⟨Sum.inr xs[i], _, _, rfl, h, ?_, ext_set e hD, ?_⟩
    · have h1 := dd_le (xs.take i)
      have h2 := len i
      have h18 : (18 : Nat) < scanBound := by unfold scanBound; decide
      omega
    · rw [upd_same, keyS_add, keyS_len, ← ht]
  · have e2 : i = xs.length := by omega
    subst e2
    rw [List.take_length] at h
    exact .inl ⟨⟨_, q, by rw [List.length_map]; exact Nat.le_refl _⟩, hd H e h⟩
def nmB : V → Bool
  | .str z => nameB z
  | _ => false
theorem ok_PO {IT : Addr} (F : FnP K "parse_order" sPO f fd) (T : Fre mg) (Cs : Cst mg) (GS : Cl P w K mg base CX0 1 "split_words" spSplit [.str " "]) (GN : Cl P w K mg base CX0 1 "is_name" spIsName []) (M : MkOr P w K mg base C) (X1 : ExF P w K mg base "InvalidText" "value" IT) :
    FnOk P w K mg base (L2N.CX P w) 5 f fd ["text"] (spPO C IT) := by
  refine F.ok scPO (fun vs H Q E h => by obtain ⟨z, rfl, _⟩ := h; rfl) (fun cdv A outer s H vs Q E hr h => ?_)
  obtain ⟨z, rfl, hz, hQ1, hQ2⟩ := h
  have hrH : RoomH 2 (A.deeper (envOfC "parse_order" (defScope sPO) s.heap.objs.size f cdv)) := (XP.roomH_of' hr).mono (by decide)
  refine ⟨_, pss_cons (ps_set (i := 1) scPO.nd rfl (Or.inl rfl) (pe_cl GS hr (by decide) rfl pass0 (pa_cons (pv 0) pa_nil)))
    (pss_cons (ps_if (PW.pt (pw_or (pt_cmpR op_isN (pv 1) pe_non rfl) (pw_or (pt_cmpR op_gt (pe_callB call_len_seq rfl T.len boot_len (pa_cons (pv 1) pa_nil)) (pe_cst rfl (cst_int Cs.mc)) rfl)
        (pw_or1 (pt_not (pt_val (pe_callB (cr_all rfl) rfl T.all boot_all (pa_cons (pe_lc (own := [("word", 2)]) (g := gName 2) (tt := tYes) rfl scPO.nd (pi_list (pv 1)) (blkOk_by (N := ["text", "words", "word"]) (sc := defScope sPO) (by decide +kernel))
          (fun _ _ _ _ _ => pg_name (i := 2) scPO.nd rfl (Or.inl rfl)) (fun _ _ _ _ _ => pts_nil) (fun _ _ _ _ _ => pe_cl GN hr (by decide) rfl pass0 (pa_cons (pv 2) pa_nil))) pa_nil))))))))
        (pss_one (L2N.ps_raise rfl (L2N.takes_of rfl rfl rfl rfl) (PMk5.pmk (pmk_ex X1 hrH rfl (pv 0))))) pss_nil)
    (pss_cons (ps_if (pt_cmpR op_lt (pe_callB call_lenK rfl T.len boot_len (pa_cons (pe_scK (own := [("word", 2)]) (g := gName 2) (tt := tYes) rfl scPO.nd (pi_list (pv 1)) (blkOk_by (N := ["text", "words", "word"]) (sc := defScope sPO) (by decide +kernel))
          (fun _ _ _ _ _ => pg_name (i := 2) scPO.nd rfl (Or.inl rfl)) (fun _ _ _ _ _ => pts_nil) (fun _ _ _ _ _ => pv 2)) pa_nil)) (pe_callB call_len_seq rfl T.len boot_len (pa_cons (pv 1) pa_nil)) rfl)
        (pss_one (L2N.ps_raise rfl (L2N.takes_of rfl rfl rfl rfl) (PMk5.pmk (pmk_ex X1 hrH rfl (pv 0))))) pss_nil)
    (pss_one (ps_ret (pe_order M hr (by decide) rfl (pv 1)))))), ?_⟩
  have exn : ∀ H1, Ext H H1 → pOrd z = none → ExNew IT "value" (.str z) H1 E := fun H1 e hp d H' e' hd h => hQ2 hp d H' (e.trans e') (ext_none e hd) h
  refine ⟨_, rfl, z, rfl, hz, fun hb H1 e1 => ?_, fun hn he p H1 hp e1 h1 => ?_⟩
  · have hpn : pOrd z = none := if_neg fun q => hb.elim (fun h => by rw [q.1] at h; cases h) fun h => q.2.1 h
    refine ⟨_, rfl, rfl, _, rfl, ?_⟩
    refine iteT ?_
    refine iteT ?_
    exact ⟨_, rfl, ex_made (exn H1 e1 hpn)⟩
  · have hL : SqL K H1 p ((Txt.split z " ").map V.str) := SqL.of h1
    have hlen : (Txt.split z " ").length ≤ z.length + 2 := split_le z " "
    refine ⟨_, rfl, rfl, _, rfl, ?_⟩
    refine iteF ⟨_, rfl, p, _, rfl, .inl hL, _, _, rfl, rfl, _, rfl, iteB (fun hc => ?_) (fun hc => ?_)⟩
    · have hpn : pOrd z = none := if_neg fun q => by
        have h5 := (colsB_get q.2.2).2.1
        have := of_decide_eq_true hc
        rw [List.length_map] at this
        omega
      exact iteT ⟨_, rfl, ex_made (exn H1 e1 hpn)⟩
    · have h5 : (Txt.split z " ").length ≤ 5 := by
        have := of_decide_eq_false hc
        rw [List.length_map] at this
        omega
      have h16 : (5 : Nat) < sizeLine := by decide
      refine ⟨_, rfl, p, rfl, ⟨_, hL⟩, fun D hD => lc_map (R := fun x y _ => y = .bl (nmB x)) walk_list hD (fun H2 e2 => Same.seq e2 hL) (by rw [List.length_map]; omega) (fun _ _ _ _ _ _ r => r) (fun i x acc H2 hx e hDa Qe k => ?_) (fun H2 ys e hDa hA => ?_)⟩
      · obtain ⟨u, rfl, hu⟩ := map_get hx
        refine ⟨_, rfl, u, rfl, ?_, fun H3 e3 => k _ _ e3 rfl⟩
        have := part_short (List.mem_of_getElem? hu)
        omega
      · have e2 := all2_bl hA
        have hL2 : SqL K H2 p ((Txt.split z " ").map V.str) := Same.seq e hL
        refine ⟨D, ((Txt.split z " ").map V.str).map nmB, rfl, SqL.of (by rw [hDa, e2]), _, rfl, ?_⟩
        have e3 : (((Txt.split z " ").map V.str).map nmB).all id = (Txt.split z " ").all nameB := by
          rw [List.map_map, List.all_map]
          rfl
        rw [e3]
        refine iteN (fun ha => ?_) (fun ha => ?_)
        · have hpn : pOrd z = none := if_neg fun q => by
            have h6 := (colsB_get q.2.2).2.2.1
            rw [List.all_eq_false] at ha
            obtain ⟨u, hu, hu2⟩ := ha
            exact hu2 (h6 u hu)
          exact ⟨_, rfl, ex_made (exn H2 (e1.trans e) hpn)⟩
        · refine ⟨_, rfl, p, rfl, ⟨_, hL2⟩, fun D2 hD2 => sc_texts hD2 hL2 (by omega) (fun i u H3 hu e3 Qe k => ⟨_, rfl, k⟩) (fun H3 e3 h3 => ?_)⟩
          have hl3 := dd_le (Txt.split z " ")
          refine ⟨D2, _, _, rfl, h3, by omega, _, rfl, p, _, rfl, .inl (Same.seq e3 hL2), _, _, rfl, rfl, _, rfl, iteB (fun hq => ?_) (fun hq => ?_)⟩
          · have hpn : pOrd z = none := if_neg fun q => by
              have h6 := (dd_len_iff _).mpr (colsB_get q.2.2).2.2.2
              have := of_decide_eq_true hq
              rw [List.length_map, h6] at this
              omega
            exact ⟨_, rfl, ex_made (exn H3 ((e1.trans e).trans e3) hpn)⟩
          · have h6 : (Txt.split z " ").Nodup := (dd_len_iff _).mp (by
              have := of_decide_eq_false hq
              rw [List.length_map] at this
              omega)
            have hw : colsB (Txt.split z " ") = true := by
              unfold colsB
              have hp := split_pos z " "
              rw [decide_eq_true (show 0 < (Txt.split z " ").length by omega), decide_eq_true h5, ha, decide_eq_true h6]
              rfl
            have hps : pOrd z = some (Txt.split z " ") := if_pos ⟨hn, he, hw⟩
            have e4 : Ext H H3 := (e1.trans e).trans e3
            refine ⟨_, rfl, ord_made (e3 _ _ (e _ _ h1)) hw fun a H4 e5 o => hQ1 _ hps a H4 (e4.trans e5) (o.mono (fun b hb => ext_none e4 hb) fun b u _ h _ => h)⟩
end
end S78
/-! F4: is_step, step_text, steps_text. -/
namespace S78
open PySem PySem.Spec PyProof.Rows L2 SN HotX L2H
abbrev sIsStep : Stmt := top 26
theorem scIsStep : FnScope ["value", "order"] ["value"] (defScope sIsStep) := ⟨rfl, rfl, rfl, by decide +kernel, rfl, by decide +kernel, by decide +kernel⟩
/-- what an item of a tuple is -/
inductive IK where
  | s (z : Str) | n | o
def ItemV (C : Addr) (H : Hp) (x : V) (k : IK) : Prop := match k with
  | .s z => x = .str z
  | .n => x = .non
  | .o => ∃ a dx fs, x = .ref a ∧ H a = some (.ins C dx fs)
def stepB : List IK → Bool
  | [.s w, .o] => decide (w = "build") || decide (w = "drop")
  | [.s w, .o, .o] => decide (w = "relay")
  | _ => false
/-- what is_step says of a value -/
inductive StepQ (C : Addr) (H : Hp) : V → Bool → Prop where
  | tup {p : Addr} {xs : List V} {ks : List IK} (h : H p = some (.tup xs)) (hk : All2 (ItemV C H) xs ks) (hz : xs.length ≤ 8) : StepQ C H (.ref p) (stepB ks)
  | lst {p : Addr} {xs : List V} (h : H p = some (.lst xs)) : StepQ C H (.ref p) false
  | non : StepQ C H .non false
  | int (i : Int) : StepQ C H (.int i) false
  | str (z : Str) : StepQ C H (.str z) false
  | dct {p : Addr} {kvs : List (Key × V)} (h : H p = some (.dK kvs)) : StepQ C H (.ref p) false
def spIsStep (C : Addr) : Sp := fun vs H Q _ => ∃ x b, vs = [x] ∧ StepQ C H x b ∧ ∀ H', Ext H H' → Q (.bl b) H'
section
variable {P : Program} {w : World} {K : PySem.W.Frag} {mg : Str → Option Value} {base : Heap} {f : Addr} {fd : FuncData} {C fI fC fE fS fR : Addr}
theorem stepB_len {ks : List IK} (h2 : ks.length ≠ 2) (h3 : ks.length ≠ 3) : stepB ks = false := by
  unfold stepB
  split
  · exact absurd rfl h2
  · exact absurd rfl h3
  · rfl
def isRef : V → Bool
  | .ref _ => true
  | _ => false
def IK.isO : IK → Bool
  | .o => true
  | _ => false
theorem isRef_all {H : Hp} : ∀ {xs : List V} {ks : List IK}, All2 (ItemV C H) xs ks → xs.all (id ∘ isRef) = ks.all IK.isO
  | [], [], _ => rfl
  | [], _ :: _, h => by have := h.1; simp at this
  | _ :: _, [], h => by have := h.1; simp at this
  | x :: xs, k :: ks, h => by
    have h0 := h.2 0 x k rfl rfl
    have hr : All2 (ItemV C H) xs ks := ⟨by have := h.1; simpa using this, fun i a b h1 h2 => h.2 (i + 1) a b (by simpa using h1) (by simpa using h2)⟩
    rw [List.all_cons, List.all_cons, isRef_all hr]
    congr 1
    cases k with
    | s z => obtain rfl : x = .str z := h0; rfl
    | n => obtain rfl : x = .non := h0; rfl
    | o => obtain ⟨a, _, _, rfl, _⟩ := h0; rfl
theorem two_of {xs : List V} (h : xs.length = 2) : ∃ a b, xs = [a, b] := by
  match xs, h with
  | [a, b], _ => exact ⟨a, b, rfl⟩
theorem stepB_o {z : Str} {kr : List IK} (h : stepB (.s z :: kr) = true) : kr.all IK.isO = true := by
  unfold stepB at h
  split at h
  · next e => cases e; rfl
  · next e => cases e; rfl
  · cases h
theorem isO_all : ∀ {kr : List IK} {n : Nat}, kr.all IK.isO = true → kr.length = n → kr = List.replicate n .o
  | [], n, _, h => by rw [← h]; rfl
  | k :: kr, n, h, hl => by
    rw [List.all_cons, Bool.and_eq_true] at h
    rw [← hl, List.length_cons, List.replicate_succ, ← isO_all (n := kr.length) h.2 rfl]
    cases k with
    | s z => cases h.1
    | n => cases h.1
    | o => rfl
theorem ok_isStep (F : FnP K "is_step" sIsStep f fd) (T : Fre mg) (Cs : Cst mg) (O : OrF K mg C fI fC fE fS fR) : FnOk P w K mg base CX0 1 f fd ["value"] (spIsStep C) := by
  refine F.ok scIsStep (fun vs H Q E h => by obtain ⟨x, b, rfl, _⟩ := h; rfl) (fun cdv A outer s H vs Q E hr h => ?_)
  obtain ⟨x, b, rfl, hx, hQ⟩ := h
  have hu := hu_of hr
  refine ⟨_, PSs.nox (pss_cons (ps_if (PW.pt (pw_or (pt_not (pt_val (pe_callB call_isi rfl T.isi boot_isinstance (pa_cons (pv 0) (pa_cons (pe_bltn rfl T.tuple boot_tuple (v := .ty "tuple") rfl) pa_nil)))))
      (pw_or (pt_cmpR op_notIn_seq (pe_callB call_len_seq rfl T.len boot_len (pa_cons (pv 0) pa_nil)) (pe_tup (pa_cons pe_int (pa_cons pe_int pa_nil))) rfl)
      (pw_or1 (pt_not (pt_val (pe_callB call_isi rfl T.isi boot_isinstance (pa_cons (pe_ix ix_tup (pv 0) pe_int (fun _ _ => rfl)) (pa_cons (pe_bltn rfl T.str boot_str (v := .ty "str") rfl) pa_nil))))))))) (pss_one (ps_ret pe_bl)) pss_nil)
    (pss_cons (ps_if (pt_not (pt_val (pe_callB (cr_all rfl) rfl T.all boot_all (pa_cons (pe_lc (own := [("order", 1)]) (g := gName 1) (tt := tYes) rfl scIsStep.nd (pi_tup (pe_slice sl_tup (pv 0) (po_some pe_int) po_none)) (blkOk_by (N := ["value", "order"]) (sc := defScope sIsStep) (by decide +kernel))
          (fun _ _ _ _ _ => pg_name (i := 1) scIsStep.nd rfl (Or.inl rfl)) (fun _ _ _ _ _ => pts_nil) (fun _ _ _ _ _ => pe_callB (r := rIsi K) call_isi rfl T.isi boot_isinstance (pa_cons (pv 1) (pa_cons (pe_glob rfl O.mC (v := .ref C) rfl) pa_nil)))) pa_nil)))) (pss_one (ps_ret pe_bl)) pss_nil)
    (pss_one (ps_ret (pe_cmpR op_in_seq (pe_ix ix_tup (pv 0) pe_int (fun _ _ => rfl)) (pe_dget hu (pe_disp (by exact pps_cons pe_int (pe_tup (pa_cons (pe_cst rfl (cst_str Cs.build)) (pa_cons (pe_cst rfl (cst_str Cs.drop)) pa_nil))) (pps_cons pe_int (pe_tup (pa_cons (pe_cst rfl (cst_str Cs.relay)) pa_nil)) pps_nil)) rfl rfl (by simp) (by decide))
      (pe_callB call_len_seq rfl T.len boot_len (pa_cons (pv 0) pa_nil)) (fun _ _ => rfl)) rfl))))), ?_⟩
  have no : ∀ {H1}, Ext H H1 → Q (.bl false) H1 → Q (.bl false) H1 := fun _ h => h
  cases hx with
  | lst h => exact ⟨_, rfl, _, _, _, _, false, rfl, .ty "tuple", .base (.lst h), kit_ty (by decide +kernel), false, rfl, iteT (iteT (hQ _ Ext.rfl'))⟩
  | non => exact ⟨_, rfl, _, _, _, _, false, rfl, .ty "tuple", .base .non, kit_ty (by decide +kernel), false, rfl, iteT (iteT (hQ _ Ext.rfl'))⟩
  | int i => exact ⟨_, rfl, _, _, _, _, false, rfl, .ty "tuple", .base (.int i), kit_ty (by decide +kernel), false, rfl, iteT (iteT (hQ _ Ext.rfl'))⟩
  | str z => exact ⟨_, rfl, _, _, _, _, false, rfl, .ty "tuple", .base (.str z), kit_ty (by decide +kernel), false, rfl, iteT (iteT (hQ _ Ext.rfl'))⟩
  | dct h => exact ⟨_, rfl, _, _, _, _, false, rfl, .ty "tuple", .base (.dK h), kit_ty (by decide +kernel), false, rfl, iteT (iteT (hQ _ Ext.rfl'))⟩
  | @tup p xs ks h hk hz =>
    have len3 : ∀ n : Nat, inV (.int (n : Nat)) [.int 2, .int 3] = (decide (n = 2) || decide (n = 3)) := fun n => by
      unfold inV
      rw [Bool.eq_iff_iff]
      simp [eqV]
      omega
    refine ⟨_, rfl, _, _, _, _, true, rfl, .ty "tuple", .base (.tup h), kit_ty (by decide +kernel), true, rfl, iteF ?_⟩
    refine ⟨_, rfl, p, xs, rfl, .inr (SqT.of h), by show 2 ≤ sizeLine; decide, fun p2 hp2 => ⟨p2, _, rfl, .inr (SqT.of upd_same), rfl, rfl, _, rfl, ?_⟩⟩
    have e1 : Ext H (upd H p2 (.tup [.int 2, .int 3])) := Ext.upd hp2
    generalize upd H p2 (.tup [.int 2, .int 3]) = H1 at e1
    show if (!inV (.int (xs.length : Nat)) [.int 2, .int 3]) = true then _ else _
    rw [len3]
    have hkl : ks.length = xs.length := hk.1.symm
    refine iteN (fun hl => ?_) (fun hl => ?_)
    · refine iteT ?_
      have e : stepB ks = false := by
        have h2 : xs.length ≠ 2 ∧ xs.length ≠ 3 := by simpa using hl
        exact stepB_len (by rw [hkl]; exact h2.1) (by rw [hkl]; exact h2.2)
      rw [← e]
      exact hQ _ e1
    · have h23 : xs.length = 2 ∨ xs.length = 3 := by simpa using hl
      obtain ⟨x0, rest, rfl⟩ : ∃ x0 rest, xs = x0 :: rest := by
        cases xs with
        | nil => simp at h23
        | cons a b => exact ⟨a, b, rfl⟩
      obtain ⟨k0, kr, rfl⟩ : ∃ k0 kr, ks = k0 :: kr := by
        cases ks with
        | nil => simp at hkl
        | cons a b => exact ⟨a, b, rfl⟩
      have hk0 : ItemV C H x0 k0 := hk.2 0 _ _ rfl rfl
      have hkr : All2 (ItemV C H) rest kr := ⟨by have := hk.1; simpa using this, fun i a b h1 h2 => hk.2 (i + 1) a b (by simpa using h1) (by simpa using h2)⟩
      have at0 : atI (x0 :: rest) 0 = some x0 := by
        unfold atI ixN
        simp
      refine ⟨_, rfl, p, _, 0, x0, rfl, rfl, SqT.of (e1 _ _ h), at0, ?_⟩
      have bad : stepB (k0 :: kr) = false → Q (.bl false) H1 := fun e => by rw [← e]; exact hQ _ e1
      cases k0 with
      | n =>
        obtain rfl : x0 = .non := hk0
        exact ⟨_, _, _, _, false, rfl, .ty "str", .base .non, kit_ty (by decide +kernel), false, rfl, iteT (bad (by cases kr <;> rfl))⟩
      | o =>
        obtain ⟨a, dx, fs, rfl, ha⟩ := hk0
        exact ⟨_, _, _, _, false, rfl, .ty "str", .base (.ins (e1 _ _ ha) O.cl O.c1 O.c2 O.c3 O.c4), O.kOS, false, rfl, iteT (bad (by cases kr <;> rfl))⟩
      | s z0 =>
        obtain rfl : x0 = .str z0 := hk0
        refine ⟨_, _, _, _, true, rfl, .ty "str", .base (.str _), kit_ty (by decide +kernel), true, rfl, iteF ?_⟩
        have cut : cutV (V.str z0 :: rest) (some 1) none = rest := by
          unfold cutV HT.sIx
          simp
        refine ⟨_, rfl, _, rfl, p, _, rfl, SqT.of (e1 _ _ h), ?_, fun p3 hp3 => ?_⟩
        · intro q
          have := q.1
          unfold HT.sIx at this
          simp at this
        rw [cut]
        have e2 : Ext H1 (upd H1 p3 (.tup rest)) := Ext.upd hp3
        have h3 : upd H1 p3 (.tup rest) p3 = some (.tup rest) := upd_same
        generalize upd H1 p3 (.tup rest) = H2 at e2 h3
        have hrl : rest.length = 1 ∨ rest.length = 2 := by simpa using h23
        refine ⟨p3, rfl, ⟨_, SqT.of h3⟩, fun D hD => lc_map (R := fun x y _ => y = .bl (isRef x)) walk_tup hD (fun H3 e3 => SqT.of (e3 _ _ h3)) ?_ (fun _ _ _ _ _ _ r => r) (fun i x acc H3 hx e3 hDa Qe k => ?_) (fun H3 ys e3 hDa hA => ?_)⟩
        · have : (8 : Nat) < sizeLine := by decide
          omega
        · have hik : i < kr.length := by
            rcases Nat.lt_or_ge i rest.length with q | q
            · rw [← hkr.1]; exact q
            · rw [List.getElem?_eq_none q] at hx; cases hx
          have hit := hkr.2 i x _ hx (List.getElem?_eq_getElem hik)
          have e13 : Ext H H3 := (e1.trans e2).trans e3
          cases hkk : kr[i] with
          | s z =>
            rw [hkk] at hit
            obtain rfl : x = .str z := hit
            exact ⟨_, rfl, _, _, _, _, false, rfl, .own C, .base (.str z), O.kSO, k _ _ Ext.rfl' rfl⟩
          | n =>
            rw [hkk] at hit
            obtain rfl : x = .non := hit
            exact ⟨_, rfl, _, _, _, _, false, rfl, .own C, .base .non, O.kNO, k _ _ Ext.rfl' rfl⟩
          | o =>
            rw [hkk] at hit
            obtain ⟨a, dx, fs, rfl, ha⟩ := hit
            exact ⟨_, rfl, _, _, _, _, true, rfl, .own C, .base (.ins (e13 _ _ ha) O.cl O.c1 O.c2 O.c3 O.c4), O.kOO, k _ _ Ext.rfl' rfl⟩
        · have eb := all2_bl hA
          have e13 : Ext H H3 := (e1.trans e2).trans e3
          refine ⟨D, rest.map isRef, rfl, SqL.of (by rw [hDa, eb]), _, rfl, ?_⟩
          have ea : (rest.map isRef).all id = kr.all IK.isO := by
            rw [List.all_map]
            exact isRef_all hkr
          rw [ea]
          refine iteN (fun ho => ?_) (fun ho => ?_)
          · have e : stepB (.s z0 :: kr) = false := by
              cases hb : stepB (.s z0 :: kr) with
              | false => rfl
              | true => rw [stepB_o hb] at ho; cases ho
            rw [← e]
            exact hQ _ e13
          · refine ⟨_, rfl, p, _, 0, _, rfl, rfl, SqT.of (e13 _ _ h), at0, fun d hd => ?_⟩
            refine ⟨by show 2 ≤ sizeLine; decide, fun t1 ht1 => ⟨by show 1 ≤ sizeLine; decide, fun t2 ht2 => ?_⟩⟩
            have n1 : d ≠ t1 := fun z => by rw [← z, upd_same] at ht1; cases ht1
            have n2 : d ≠ t2 := fun z => by rw [← z, upd_ne n1, upd_same] at ht2; cases ht2
            have n3 : t1 ≠ t2 := fun z => by rw [← z, upd_same] at ht2; cases ht2
            have e4 : Ext H H3 := e13
            refine ⟨by rw [upd_ne n2, upd_ne n1, upd_same], [(Sum.inl 2, .ref t1), (Sum.inl 3, .ref t2)], rfl, (by show 2 ≤ 15; decide), ?_⟩
            have e5 : Ext H3 (upd (upd (upd (upd H3 d (.dK [])) t1 (.tup [.str "build", .str "drop"])) t2 (.tup [.str "relay"])) d (.dK (mergeK [] [(Sum.inl 2, .ref t1), (Sum.inl 3, .ref t2)]))) := ext_set ((((Ext.upd hd).upd' ht1)).upd' ht2) hd
            refine ⟨_, rfl, p, _, rfl, .inr (SqT.of (e5 _ _ (e13 _ _ h))), ?_⟩
            have e6 := e13.trans e5
            rcases hrl with hr1 | hr2
            · obtain ⟨y1, rfl⟩ := List.length_eq_one_iff.mp hr1
              refine ⟨d, .ref t1, rfl, .inl ⟨_, Sum.inl 2, .inl upd_same, rfl, rfl⟩, t1, _, rfl, .inr (SqT.of (by rw [upd_ne n1.symm, upd_ne n3, upd_same])), rfl, rfl, ?_⟩
              have ekr : kr = [.o] := isO_all (n := 1) ho hkr.1.symm
              have es : inV (.str z0) [.str "build", .str "drop"] = stepB (.s z0 :: kr) := by
                rw [ekr]
                show inV (.str z0) ((["build", "drop"] : List Str).map V.str) = _
                rw [inV_strs]
                show _ = (decide (z0 = "build") || decide (z0 = "drop"))
                rw [Bool.eq_iff_iff]
                simp
              show Q (.bl (inV (.str z0) [.str "build", .str "drop"])) _
              rw [es]
              exact hQ _ e6
            · obtain ⟨y1, y2, rfl⟩ := two_of hr2
              refine ⟨d, .ref t2, rfl, .inl ⟨_, Sum.inl 3, .inl upd_same, rfl, rfl⟩, t2, _, rfl, .inr (SqT.of (by rw [upd_ne n2.symm, upd_same])), rfl, rfl, ?_⟩
              have ekr : kr = [.o, .o] := isO_all (n := 2) ho hkr.1.symm
              have es : inV (.str z0) [.str "relay"] = stepB (.s z0 :: kr) := by
                rw [ekr]
                show inV (.str z0) ((["relay"] : List Str).map V.str) = _
                rw [inV_strs]
                show _ = decide (z0 = "relay")
                rw [Bool.eq_iff_iff]
                simp
              show Q (.bl (inV (.str z0) [.str "relay"])) _
              rw [es]
              exact hQ _ e6
end
end S78
/-! F5: str(order), step_text, steps_text. -/
namespace S78
open PySem PySem.Spec PyProof.Rows L2 SN HotX L2H
section
variable {X : Cx} {CX : CXT} {k n : Nat} {f C : Addr} {fd : FuncData} {ps : List Str} {sp : Sp} {E : XK}
/-- a callee that runs below a built-in one -/
theorem run_fnS {A : Around} {pins : List (Addr × Obj)} {σ : L2.St} {H : Hp} {s : Shared} {Q : VK} {us : List Value} {vs : List V} (F : FnOk X.prog X.w X.K X.mg X.base CX k f fd ps sp) (sb : L2.Sub X k A) (hb : Binds X.K fd ps []) (hx : Passes CX X E)
    (I : Inv X pins σ H s) (r : Vals vs us) (h : sp vs H Q E) : wpAny (model X.prog X.w) A (call (.ref f) us) (EP X pins σ Q) X.xe s := by
  have e0 : Env0 X.prog X.w X.K X.mg X.base A X.stack s H := by
    have e := I.env0
    exact ⟨by rw [sb.fr]; exact e.frames, e.mod, e.bs, e.bsz, e.funs, e.frf, e.hok, e.bare⟩
  have hl : (us ++ []).length = ps.length := by rw [List.append_nil, ← r.length]; exact F.len _ _ _ _ h
  have b2 := hb s us I.kIn hl
  rw [List.append_nil] at b2
  refine wpAny_call (codeAny_mono (F.run A X.stack s H ⟨us, []⟩ us vs Q E sb.room e0 b2 r h) fun r s' hq => ?_)
  cases r with
  | error e => exact hx pins σ H s e s' I hq
  | ok fl =>
    cases fl with
    | ret u => exact I.after hq
    | next => exact False.elim hq
    | brk => exact False.elim hq
    | cont => exact False.elim hq
/-- the class's own __str__ -/
structure StrO (P : Program) (w : World) (K : PySem.W.Frag) (mg : Str → Option Value) (base : Heap) (C : Addr) : Prop where
  ex : ∃ (f : Addr) (fd : FuncData) (ps : List Str), PySem.W.findIn K (.ref C) "__str__" = some (some (.ref f)) ∧ PySem.W.isFn K (.ref f) = true ∧ FnOk P w K mg base CX0 1 f fd ps (spStr C) ∧ Binds K fd ps []
def rStrO (C : Addr) : List V → Hp → VK → Prop := fun xs H Q => ∃ (a : Addr) (ws : List Str), xs = [.ref a] ∧ Ord C An H a ws ∧ colsB ws = true ∧ ∀ H', Ext H H' → Q (.str (Txt.join " " ws)) H'
theorem call_strO (M : StrO X.prog X.w X.K X.mg X.base C) (hr : Room 3 X.A) : CallR X (.type "str") (rStrO C) := by
  intro pins s σ H xs us Q I r h
  obtain ⟨f, fd, ps, h1, h2, F, hb⟩ := M.ex
  obtain ⟨a, ws, rfl, o, hw, q⟩ := h
  cases r with
  | cons r1 r2 =>
    cases r2
    cases r1
    obtain ⟨dx, l, _, _, ha, hl⟩ := id o
    obtain ⟨mA, J, _⟩ := ins_get I.hok ha
    obtain ⟨od, J, _⟩ := J.look
    have sb : L2.Sub X 1 X.A.in1.in1 := (show L2.Sub X 3 X.A from ⟨hr, rfl⟩).in1.in1
    have hu : X.A.in1.in1.units < cLine := sb.room.units0
    refine PySem.W.kso_call hu I.kIn J h1 h2 (wpAny_mono (run_fnS (Q := fun v H' => v = .str (Txt.join " " ws) ∧ Ext H H') F sb hb pass0 I (vs := [.ref a]) (.cons rfl .nil) ⟨a, ws, rfl, o, hw, fun H' e => ⟨rfl, e⟩⟩) (fun v s' z => ?_) fun _ _ z => z)
    obtain ⟨v', H', I', r', rfl, e'⟩ := z
    obtain ⟨t, rfl⟩ := r'
    exact ⟨.str (Txt.join " " ws), H', I', ⟨t, rfl⟩, q H' e'⟩
/-! ### for x in a list or a tuple -/
def iSeq (K : PySem.W.Frag) (tl : TE) : TI := fun σ H R => tl σ H fun x H1 => ∃ a, x = .ref a ∧ (((∃ xs, SqL K H1 a xs) ∧ R (Itl K a) H1) ∨ ((∃ xs, SqT K H1 a xs) ∧ R (Itt K a) H1))
theorem pi_seq {l tg : Expr} {tl : TE} (hl : PE X l tl) : PI X tg l (iSeq X.K tl) := by
  refine ⟨fun pins s σ H R I h => ?_⟩
  refine thn (hl.run pins s σ H _ I h) fun v s1 ⟨x, H1, I1, r1, q1⟩ => ?_
  obtain ⟨a, e, q1⟩ := q1
  subst e
  cases r1
  have kp : ∀ o : Obj, Inv X pins σ H1 { s1 with heap := s1.heap.push o } := fun o => I1.kept (t' := s1.toks) fun b u e => Heap.get?_push_of_some _ e
  have fo : ∀ b ∈ [s1.heap.objs.size], FpOk X pins H1 b ∧ True := fun b hb => by
    have e : b = s1.heap.objs.size := by simpa using hb
    subst e
    exact ⟨I1.fpOk (Nat.le_refl _) (I1.hok.fresh (Nat.le_refl _)), trivial⟩
  rcases q1 with ⟨⟨xs, hq⟩, q⟩ | ⟨⟨xs, hq⟩, q⟩
  · obtain ⟨its, rv, p, hz⟩ := I1.list hq
    exact wpAny_pyIter_list p.isList ⟨s1.heap.objs.size, [s1.heap.objs.size], _, _, H1, rfl, kp _, turn_list a _, ⟨_, Heap.get?_push_size _ rfl, rfl, rfl⟩, fun b hb => (fo b hb).1, q⟩
  · obtain ⟨its, rv, p, hz⟩ := I1.tuple hq
    exact wpAny_pyIter_tuple (show s1.heap.IsTuple a its.toArray from p) ⟨s1.heap.objs.size, [s1.heap.objs.size], _, _, H1, rfl, kp _, turn_tuple a _, ⟨_, Heap.get?_push_size _ rfl, rfl, rfl⟩, fun b hb => (fo b hb).1, q⟩
end
/-! ### steps -/
/-- a step as it may be: the word and the orders' columns -/
def okSt (st : Str × List (List Str)) : Prop := ((st.1 = "build" ∨ st.1 = "drop") ∧ ∃ ws, st.2 = [ws] ∧ colsB ws = true) ∨ (st.1 = "relay" ∧ ∃ ws os, st.2 = [ws, os] ∧ colsB ws = true ∧ colsB os = true)
def stText (st : Str × List (List Str)) : Str := st.1 ++ " " ++ Txt.join " > " (st.2.map (Txt.join " "))
theorem okSt_all {st : Str × List (List Str)} (h : okSt st) : (∀ ws ∈ st.2, colsB ws = true) ∧ 1 ≤ st.2.length ∧ st.2.length ≤ 2 ∧ st.1.length ≤ 5 := by
  rcases h with ⟨h1, ws, h2, h3⟩ | ⟨h1, ws, os, h2, h3, h4⟩
  · refine ⟨fun x hx => ?_, by rw [h2]; exact Nat.le_refl _, by rw [h2]; show 1 ≤ 2; decide, ?_⟩
    · rw [h2, List.mem_singleton] at hx; rw [hx]; exact h3
    · rcases h1 with h1 | h1 <;> rw [h1] <;> decide
  · refine ⟨fun x hx => ?_, by rw [h2]; exact Nat.le_succ _, by rw [h2]; exact Nat.le_refl _, by rw [h1]; decide⟩
    rw [h2] at hx
    rcases List.mem_cons.mp hx with rfl | hx
    · exact h3
    · rw [List.mem_singleton] at hx; rw [hx]; exact h4
theorem cols_len {ws : List Str} (h : colsB ws = true) : (Txt.join " " ws).length ≤ 45 := by
  obtain ⟨h1, h2, h3, h4⟩ := colsB_get h
  have e := sum_le (ws := ws) (n := 8) fun z hz => (nameB_get (h3 z hz)).2.1
  have e2 := StrLaws.join_length_le " " ws
  have e3 : Str.length " " = 1 := by decide
  rw [TL.join_eq]
  rw [e3] at e2
  omega
theorem ords_len {oss : List (List Str)} (h : ∀ ws ∈ oss, colsB ws = true) (h2 : oss.length ≤ 2) : ((oss.map (Txt.join " ")).map (·.length)).sum + (oss.map (Txt.join " ")).length * (Str.length " > ") ≤ 96 := by
  have e := sum_le (ws := oss.map (Txt.join " ")) (n := 45) fun z hz => by
    obtain ⟨ws, hw, rfl⟩ := List.mem_map.mp hz
    exact cols_len (h ws hw)
  have e3 : Str.length " > " = 3 := by decide
  rw [List.length_map] at e ⊢
  rw [e3]
  omega
theorem stText_len {st : Str × List (List Str)} (h : okSt st) : (stText st).length ≤ 102 := by
  obtain ⟨h1, h2, h3, h4⟩ := okSt_all h
  have e := ords_len h1 h3
  have e2 := StrLaws.join_length_le " > " (st.2.map (Txt.join " "))
  have e3 : (Str.ofString " ").length = 1 := by decide
  unfold stText
  rw [strLen_append, strLen_append, TL.join_eq, e3]
  omega
theorem Stp.q {C : Addr} {S : Addr → Prop} {H : Hp} {x : V} {st : Str × List (List Str)} (h : Stp C S H x st) (ok : okSt st) : StepQ C H x true := by
  obtain ⟨p, os, rfl, _, hp, ho⟩ := h
  have hk : All2 (ItemV C H) (.str st.1 :: os) (.s st.1 :: st.2.map fun _ => IK.o) := by
    refine .cons rfl ⟨by rw [List.length_map]; exact ho.1, fun i x y hx hy => ?_⟩
    rw [List.getElem?_map] at hy
    cases e : st.2[i]? with
    | none => rw [e] at hy; cases hy
    | some ws =>
      rw [e] at hy
      cases hy
      obtain ⟨a, rfl, dx, l, _, _, ha, _⟩ := ho.2 i x ws hx e
      exact ⟨a, dx, _, rfl, ha⟩
  obtain ⟨_, h2, h3, _⟩ := okSt_all ok
  have e : stepB (.s st.1 :: st.2.map fun _ => IK.o) = true := by
    rcases ok with ⟨h1, ws, e, _⟩ | ⟨h1, ws, os, e, _⟩
    · rw [e]
      rcases h1 with h1 | h1
      · rw [h1]; show stepB [.s "build", .o] = true; decide
      · rw [h1]; show stepB [.s "drop", .o] = true; decide
    · rw [e, h1]
      show stepB [.s "relay", .o, .o] = true
      decide
  rw [← e]
  exact .tup hp hk (by rw [List.length_cons, ho.1]; omega)
abbrev sST : Stmt := top 30
theorem scST : FnScope ["step", "order"] ["step"] (defScope sST) := ⟨rfl, rfl, rfl, by decide +kernel, rfl, by decide +kernel, by decide +kernel⟩
def spST (C IS : Addr) : Sp := fun vs H Q E => ∃ x, vs = [x] ∧ ((∃ st, Stp C An H x st ∧ okSt st ∧ ∀ H', Ext H H' → Q (.str (stText st)) H') ∨ (StepQ C H x false ∧ ExNew IS "value" x H E))
section
variable {P : Program} {w : World} {K : PySem.W.Frag} {mg : Str → Option Value} {base : Heap} {f : Addr} {fd : FuncData} {C IS : Addr}
theorem ExNew.ext {C : Addr} {fn : Str} {v : V} {H H1 : Hp} {E : XK} (h : ExNew C fn v H E) (e : Ext H H1) : ExNew C fn v H1 E := fun d H' e' hd q => h d H' (e.trans e') (ext_none e hd) q
theorem map_str_inj : ∀ {ws os : List Str}, ws.map V.str = os.map V.str → ws = os
  | [], [], _ => rfl
  | [], _ :: _, h => by cases h
  | _ :: _, [], h => by cases h
  | w :: ws, o :: os, h => by
    injection h with h1 h2
    injection h1 with h1
    rw [h1, map_str_inj h2]
theorem ord_inj {C : Addr} {S S' : Addr → Prop} {H : Hp} {a : Addr} {ws os : List Str} (h : Ord C S H a ws) (h' : Ord C S' H a os) : ws = os := by
  obtain ⟨dx, l, _, _, h1, h2⟩ := h
  obtain ⟨dx', l', _, _, h3, h4⟩ := h'
  rw [h1] at h3
  cases h3
  rw [h2] at h4
  injection h4 with h4
  injection h4 with h4
  exact map_str_inj h4
theorem empty_app (x : Str) : Str.empty ++ x = x := by
  show (⟨#[] ++ x.cps⟩ : Str) = x
  rw [Array.empty_append]
theorem ok_ST (F : FnP K "step_text" sST f fd) (T : Fre mg) (Cs : Cst mg) (GI : Cl P w K mg base CX0 1 "is_step" (spIsStep C) []) (M : StrO P w K mg base C) (X1 : ExF P w K mg base "InvalidSteps" "value" IS) : FnOk P w K mg base (L2N.CX P w) 5 f fd ["step"] (spST C IS) := by
  refine F.ok scST (fun vs H Q E h => by obtain ⟨x, rfl, _⟩ := h; rfl) (fun cdv A outer s H vs Q E hr h => ?_)
  obtain ⟨x, rfl, h⟩ := h
  have hrH : RoomH 2 (A.deeper (envOfC "step_text" (defScope sST) s.heap.objs.size f cdv)) := (XP.roomH_of' hr).mono (by decide)
  refine ⟨_, pss_cons (ps_if (pt_not (pt_val (pe_cl GI hr (by decide) rfl pass0 (pa_cons (pv 0) pa_nil)))) (pss_one (L2N.ps_raise rfl (L2N.takes_of rfl rfl rfl rfl) (PMk5.pmk (pmk_ex X1 hrH rfl (pv 0))))) pss_nil)
    (pss_one (ps_ret (pe_joined (by exact .cons (pe_fmt (pe_ix ix_tup (pv 0) pe_int (fun _ _ => rfl))) (.cons pe_str (.cons (pe_fmt (pe_join (pe_cst rfl (cst_str Cs.tw)) (pe_lc (own := [("order", 1)]) (g := gName 1) (tt := tYes) rfl scST.nd (pi_tup (pe_slice sl_tup (pv 0) (po_some pe_int) po_none)) (blkOk_by (N := ["step", "order"]) (sc := defScope sST) (by decide +kernel))
        (fun _ _ _ _ _ => pg_name (i := 1) scST.nd rfl (Or.inl rfl)) (fun _ _ _ _ _ => pts_nil) (fun _ _ _ _ _ => pe_callTy (r := rStrO C) (call_strO M (hr.mono (by decide))) rfl T.str boot_str (pa_cons (pv 1) pa_nil))))) .nil)))))), ?_⟩
  rcases h with ⟨st, hst, ok, hQ⟩ | ⟨hq, hE⟩
  · obtain ⟨h1, h2, h3, h4⟩ := okSt_all ok
    refine ⟨_, rfl, _, true, rfl, hst.q ok, fun H1 e1 => ⟨true, rfl, iteF ?_⟩⟩
    obtain ⟨p, os, rfl, _, hp, ho⟩ := hst
    have at0 : atI (V.str st.1 :: os) 0 = some (.str st.1) := by
      unfold atI ixN
      simp
    have cut : cutV (V.str st.1 :: os) (some 1) none = os := by
      unfold cutV HT.sIx
      simp
    have hol : os.length = st.2.length := ho.1
    refine ⟨_, rfl, p, _, 0, _, rfl, rfl, SqT.of (e1 _ _ hp), at0, .inl ⟨st.1, rfl, Nat.le_trans h4 (by decide), _, rfl, ?_, _, rfl, ?_, ?_⟩⟩
    · show (Str.empty ++ st.1).length ≤ sizeLine
      rw [strLen_append]
      exact Nat.le_trans (Nat.add_le_add (show Str.empty.length ≤ 0 by decide) h4) (by decide)
    · show (Str.empty ++ st.1 ++ Str.ofString " ").length ≤ sizeLine
      rw [strLen_append, strLen_append]
      exact Nat.le_trans (Nat.add_le_add (Nat.add_le_add (show Str.empty.length ≤ 0 by decide) h4) (show (Str.ofString " ").length ≤ 1 by decide)) (by decide)
    refine ⟨⟨_, rfl⟩, _, rfl, _, rfl, p, _, rfl, SqT.of (e1 _ _ hp), ?_, fun p3 hp3 => ?_⟩
    · intro q
      have := q.1
      unfold HT.sIx at this
      simp at this
    rw [cut]
    have e2 : Ext H1 (upd H1 p3 (.tup os)) := Ext.upd hp3
    have h3' : upd H1 p3 (.tup os) p3 = some (.tup os) := upd_same
    generalize upd H1 p3 (.tup os) = H2 at e2 h3'
    refine ⟨p3, rfl, ⟨_, SqT.of h3'⟩, fun D hD => lc_map (R := fun x y _ => ∀ ws, OrdV C An H x ws → ws ∈ st.2 → y = .str (Txt.join " " ws)) walk_tup hD (fun H3 e3 => SqT.of (e3 _ _ h3')) ?_ (fun _ _ _ _ _ _ r => r) (fun i x acc H3 hx e3 hDa Qe k => ?_) (fun H3 ys e3 hDa hA => ?_)⟩
    · have : (8 : Nat) < sizeLine := by decide
      omega
    · have hil : i < st.2.length := by
        rcases Nat.lt_or_ge i os.length with q | q
        · rw [← hol]; exact q
        · rw [List.getElem?_eq_none q] at hx; cases hx
      obtain ⟨a, rfl, oa⟩ := ho.2 i x _ hx (List.getElem?_eq_getElem hil)
      have hm : st.2[i] ∈ st.2 := List.getElem_mem hil
      have e13 : Ext H H3 := (e1.trans e2).trans e3
      refine ⟨_, rfl, a, st.2[i], rfl, (oa.ext e13).any, h1 _ hm, fun H4 e4 => k _ _ e4 fun ws hw hwm => ?_⟩
      obtain ⟨a', e, ow⟩ := hw
      cases e
      rw [ord_inj ow oa]
    · have ey : ys = (st.2.map (Txt.join " ")).map V.str := by
        refine List.ext_getElem? fun i => ?_
        rcases Nat.lt_or_ge i st.2.length with hi | hi
        · have hio : i < os.length := by rw [hol]; exact hi
          have hiy : i < ys.length := by rw [← hA.1]; exact hio
          have q := hA.2 i os[i] ys[i] (List.getElem?_eq_getElem hio) (List.getElem?_eq_getElem hiy)
          obtain ⟨a, ea, oa⟩ := ho.2 i os[i] st.2[i] (List.getElem?_eq_getElem hio) (List.getElem?_eq_getElem hi)
          have z := q st.2[i] ⟨a, ea, oa.any⟩ (List.getElem_mem hi)
          rw [List.getElem?_eq_getElem hiy, z, List.getElem?_map, List.getElem?_map, List.getElem?_eq_getElem hi]
          rfl
        · have hiy : ys.length ≤ i := by rw [← hA.1, hol]; exact hi
          rw [List.getElem?_eq_none hiy, List.getElem?_map, List.getElem?_map, List.getElem?_eq_none hi]
          rfl
      have hlen := ords_len h1 h3
      have hjl := StrLaws.join_length_le " > " (st.2.map (Txt.join " "))
      refine ⟨_, D, st.2.map (Txt.join " "), rfl, rfl, .inl (SqL.of (by rw [hDa, ey])), Nat.le_trans hlen (by decide), .inl ⟨_, rfl, ?_, _, rfl, ?_, ?_⟩⟩
      · rw [TL.join_eq]
        exact Nat.le_trans (Nat.le_trans hjl hlen) (by decide)
      · have := stText_len ok
        have e : (Str.empty ++ st.1 ++ Str.ofString " " ++ Txt.join " > " (st.2.map (Txt.join " "))).length ≤ 102 := by
          unfold stText at this
          rw [strLen_append, strLen_append] at this
          rw [strLen_append, strLen_append, strLen_append]
          have e0 : Str.empty.length = 0 := by decide
          omega
        exact Nat.le_trans e (by decide)
      · have e : Str.empty ++ st.1 ++ Str.ofString " " ++ Txt.join " > " (st.2.map (Txt.join " ")) = stText st := by
          unfold stText
          congr 2
          exact empty_app st.1
        show Q (.str _) H3
        rw [e]
        exact hQ _ ((e1.trans e2).trans e3)
  · exact ⟨_, rfl, _, false, rfl, hq, fun H1 e1 => ⟨false, rfl, iteT ⟨_, rfl, ex_made (hE.ext e1)⟩⟩⟩
end
end S78
/-! F6: steps_text, parse_step, parse_steps. -/
namespace S78
open PySem PySem.Spec PyProof.Rows L2 SN HotX L2H
theorem passN0 {X : Cx} {P : Program} {w : World} : Passes (L2N.CX P w) X E0 := fun _ _ _ _ _ _ _ h => by
  obtain ⟨_, _, _, _, _, _, _, _, _, _, _, _, z⟩ := h
  exact z.elim
theorem pass20 {X : Cx} {P : Program} {w : World} : Passes (L2.CX P w) X E0 := fun _ _ _ _ _ _ _ h => by
  obtain ⟨_, _, _, _, _, _, _, _, _, _, _, _, z⟩ := h
  exact z.elim
theorem passP0 {X : Cx} {P : Program} {w : World} : Passes (XP.CXp P w) X E0 := fun _ _ _ _ _ _ _ h => by
  obtain ⟨_, _, _, _, _, _, _, _, _, _, _, _, _, _, z⟩ := h
  exact z.elim
abbrev sSS : Stmt := top 32
theorem scSS : FnScope ["steps", "step"] ["steps"] (defScope sSS) := ⟨rfl, rfl, rfl, by decide +kernel, rfl, by decide +kernel, by decide +kernel⟩
theorem ItemV.ext {C : Addr} {H H' : Hp} {x : V} {k : IK} (h : ItemV C H x k) (e : Ext H H') : ItemV C H' x k := by
  cases k with
  | s z => exact h
  | n => exact h
  | o => obtain ⟨a, dx, fs, h1, h2⟩ := h; exact ⟨a, dx, fs, h1, e _ _ h2⟩
theorem StepQ.ext {C : Addr} {H H' : Hp} {x : V} {b : Bool} (h : StepQ C H x b) (e : Ext H H') : StepQ C H' x b := by
  cases h with
  | tup h hk hz => exact .tup (e _ _ h) (hk.imp fun _ _ q => q.ext e) hz
  | lst h => exact .lst (e _ _ h)
  | non => exact .non
  | int i => exact .int i
  | str z => exact .str z
  | dct h => exact .dct (e _ _ h)
theorem Lty.ext {K : PySem.W.Frag} {H H' : Hp} {x : V} {b : Bool} (h : Lty K H x b) (e : Ext H H') : Lty K H' x b := by
  cases h with
  | lst h => exact .lst (e _ _ h)
  | tup h => exact .tup (e _ _ h)
  | non => exact .non
  | int i => exact .int i
  | str z => exact .str z
  | dct h => exact .dct (e _ _ h)
/-- a list or a tuple -/
def LoT (H : Hp) (p : Addr) (xs : List V) : Prop := H p = some (.lst xs) ∨ H p = some (.tup xs)
theorem LoT.ext {H H' : Hp} {p : Addr} {xs : List V} (h : LoT H p xs) (e : Ext H H') : LoT H' p xs := h.imp (e _ _) (e _ _)
theorem LoT.lty {K : PySem.W.Frag} {H : Hp} {p : Addr} {xs : List V} (h : LoT H p xs) : Lty K H (.ref p) true := h.elim .lst .tup
theorem LoT.sq {K : PySem.W.Frag} {H : Hp} {p : Addr} {xs : List V} (h : LoT H p xs) : SqL K H p xs ∨ SqT K H p xs := h.imp SqL.of SqT.of
/-- what is not a list of steps -/
inductive BadS (K : PySem.W.Frag) (C : Addr) (H : Hp) : V → Prop where
  | no {x : V} (h : Lty K H x false) : BadS K C H x
  | long {p : Addr} {xs : List V} (h : LoT H p xs) (hl : 100 < xs.length) : BadS K C H (.ref p)
  | item {p : Addr} {xs : List V} {bs : List Bool} (h : LoT H p xs) (hb : All2 (StepQ C H) xs bs) (hf : bs.all id = false) (hl : xs.length ≤ 100) : BadS K C H (.ref p)
def spSS (K : PySem.W.Frag) (C IS : Addr) : Sp := fun vs H Q E => ∃ x, vs = [x] ∧
  ((∃ p xs sts, x = .ref p ∧ LoT H p xs ∧ All2 (Stp C An H) xs sts ∧ (∀ st ∈ sts, okSt st) ∧ xs.length ≤ 100 ∧ ∀ H', Ext H H' → Q (.str (Txt.join "\n" (sts.map stText))) H') ∨ (BadS K C H x ∧ ExNew IS "value" x H E))
section
variable {P : Program} {w : World} {K : PySem.W.Frag} {mg : Str → Option Value} {base : Heap} {f : Addr} {fd : FuncData} {C IS IT IL : Addr}
/-- a comprehension over a list or a tuple -/
theorem lc_seq {a : Addr} {xs : List V} {te : TE} {j : Nat} {σ : L2.St} {H1 : Hp} {Q : Addr → Hp → Prop} (R : V → V → Hp → Prop) (hL : LoT H1 a xs) (hz : xs.length < sizeLine)
    (hmon : ∀ D x y H H', H1 D = none → Ext H1 H → KpB D H H' → R x y H → R x y H')
    (hs : ∀ (i : Nat) (x : V) (H : Hp) (D : Addr), xs[i]? = some x → Ext H1 H → H1 D = none → (∃ acc, H D = some (.lst acc)) → ∀ Qe : VK, (∀ y H4, Ext H H4 → R x y H4 → Qe y H4) → te ((wipe σ [j]).set j (some x)) H Qe)
    (hd : ∀ H D ys, H1 D = none → Ext H1 H → H D = some (.lst ys) → All2 (fun x y => R x y H) xs ys → Q D H) :
    ((∃ xs, SqL K H1 a xs) ∧ (fun J H1 => ∀ D, H1 D = none → ∃ W : Nat → Nat → Hp → Prop, (∃ m, W 0 m (upd H1 D (.lst []))) ∧ ∀ i m H, W i m H → (J.stop i H ∧ Q D H) ∨ (J.go i H ∧ ∃ Nx : Hp → Prop, (∀ H', Nx H' → ∃ m', m' < m ∧ W (i + 1) m' H') ∧ ∀ x H', J.yld i H x H' → gName j x (wipe σ [j]) H' fun σ2 H2 => wipe σ2 [j] = wipe σ [j] ∧ tYes σ2 H2 fun b H3 =>
        if b = true then te σ2 H3 fun y H4 => ∃ acc, H4 D = some (.lst acc) ∧ acc.length < sizeLine ∧ Nx (upd H4 D (.lst (acc ++ [y]))) else Nx H3)) (Itl K a) H1) ∨
    ((∃ xs, SqT K H1 a xs) ∧ (fun J H1 => ∀ D, H1 D = none → ∃ W : Nat → Nat → Hp → Prop, (∃ m, W 0 m (upd H1 D (.lst []))) ∧ ∀ i m H, W i m H → (J.stop i H ∧ Q D H) ∨ (J.go i H ∧ ∃ Nx : Hp → Prop, (∀ H', Nx H' → ∃ m', m' < m ∧ W (i + 1) m' H') ∧ ∀ x H', J.yld i H x H' → gName j x (wipe σ [j]) H' fun σ2 H2 => wipe σ2 [j] = wipe σ [j] ∧ tYes σ2 H2 fun b H3 =>
        if b = true then te σ2 H3 fun y H4 => ∃ acc, H4 D = some (.lst acc) ∧ acc.length < sizeLine ∧ Nx (upd H4 D (.lst (acc ++ [y]))) else Nx H3)) (Itt K a) H1) := by
  rcases hL with hL | hL
  · exact .inl ⟨⟨_, SqL.of hL⟩, fun D hD => lc_map (R := R) walk_list hD (fun H e => SqL.of (e _ _ hL)) hz (fun x y H H' e k r => hmon D x y H H' hD e k r) (fun i x acc H hx e hDa Qe k => hs i x H D hx e hD ⟨acc, hDa⟩ Qe k) (fun H ys e hDa hA => hd H D ys hD e hDa hA)⟩
  · exact .inr ⟨⟨_, SqT.of hL⟩, fun D hD => lc_map (R := R) walk_tup hD (fun H e => SqT.of (e _ _ hL)) hz (fun x y H H' e k r => hmon D x y H H' hD e k r) (fun i x acc H hx e hDa Qe k => hs i x H D hx e hD ⟨acc, hDa⟩ Qe k) (fun H ys e hDa hA => hd H D ys hD e hDa hA)⟩
theorem all2_fun {α : Type} {R : V → α → Prop} : ∀ {xs : List V} {ys zs : List α}, (∀ x y z, R x y → R x z → y = z) → All2 R xs ys → All2 R xs zs → ys = zs
  | [], ys, zs, _, h1, h2 => by
    have e1 := h1.1
    have e2 := h2.1
    cases ys <;> cases zs <;> simp_all
  | x :: xs, ys, zs, inj, h1, h2 => by
    cases ys with
    | nil => have := h1.1; simp at this
    | cons y ys =>
      cases zs with
      | nil => have := h2.1; simp at this
      | cons z zs =>
        rw [inj x y z (h1.2 0 _ _ rfl rfl) (h2.2 0 _ _ rfl rfl)]
        have e := all2_fun (xs := xs) (ys := ys) (zs := zs) inj ⟨by have := h1.1; simpa using this, fun i a b p q => h1.2 (i + 1) a b (by simpa using p) (by simpa using q)⟩ ⟨by have := h2.1; simpa using this, fun i a b p q => h2.2 (i + 1) a b (by simpa using p) (by simpa using q)⟩
        rw [e]
theorem stp_inj {S S' : Addr → Prop} {H : Hp} {x : V} {st st' : Str × List (List Str)} (h : Stp C S H x st) (h' : Stp C S' H x st') : st = st' := by
  obtain ⟨p, os, rfl, _, h1, h2⟩ := h
  obtain ⟨p', os', e, _, h3, h4⟩ := h'
  cases e
  rw [h1] at h3
  injection h3 with h3
  injection h3 with h3
  injection h3 with h5 h6
  injection h5 with h5
  subst h6
  have e2 : st.2 = st'.2 := all2_fun (R := OrdV C An H) (fun x y z hy hz => by
    obtain ⟨a, rfl, oy⟩ := hy
    obtain ⟨b, e, oz⟩ := hz
    cases e
    exact ord_inj oy oz) (h2.imp fun _ _ o => o.mono (fun _ _ => trivial) fun _ _ _ q _ => q) (h4.imp fun _ _ o => o.mono (fun _ _ => trivial) fun _ _ _ q _ => q)
  exact Prod.ext h5 e2
theorem itemV_inj {H : Hp} {x : V} {k k' : IK} (h : ItemV C H x k) (h' : ItemV C H x k') : k = k' := by
  cases k with
  | s z =>
    obtain rfl : x = .str z := h
    cases k' with
    | s z' => cases (show V.str z = .str z' from h'); rfl
    | n => cases (show V.str z = .non from h')
    | o => obtain ⟨_, _, _, e, _⟩ := h'; cases e
  | n =>
    obtain rfl : x = .non := h
    cases k' with
    | s z' => cases (show V.non = .str z' from h')
    | n => rfl
    | o => obtain ⟨_, _, _, e, _⟩ := h'; cases e
  | o =>
    obtain ⟨a, dx, fs, rfl, _⟩ := h
    cases k' with
    | s z' => cases (show V.ref a = .str z' from h')
    | n => cases (show V.ref a = .non from h')
    | o => rfl
theorem stepQ_inj {H : Hp} {x : V} {b b' : Bool} (h : StepQ C H x b) (h' : StepQ C H x b') : b = b' := by
  cases h with
  | tup h hk _ =>
    cases h' with
    | tup h2 hk2 _ =>
      rw [h] at h2
      injection h2 with h2
      injection h2 with h2
      subst h2
      have e := all2_fun (R := ItemV C H) (fun x y z h1 h2 => itemV_inj h1 h2) hk hk2
      rw [e]
    | lst h2 => rw [h] at h2; cases h2
    | dct h2 => rw [h] at h2; cases h2
  | lst h =>
    cases h' with
    | tup h2 _ _ => rw [h] at h2; cases h2
    | lst _ => rfl
    | dct _ => rfl
  | non => cases h'; rfl
  | int i => cases h'; rfl
  | str z => cases h'; rfl
  | dct h =>
    cases h' with
    | tup h2 _ _ => rw [h] at h2; cases h2
    | lst _ => rfl
    | dct _ => rfl
theorem ok_SS (F : FnP K "steps_text" sSS f fd) (T : Fre mg) (Cs : Cst mg) (GL : Cl P w K mg base CX0 1 "is_list" (spIsList K) []) (GI : Cl P w K mg base CX0 1 "is_step" (spIsStep C) []) (GT : Cl P w K mg base (L2N.CX P w) 5 "step_text" (spST C IS) []) (X1 : ExF P w K mg base "InvalidSteps" "value" IS) :
    FnOk P w K mg base (L2N.CX P w) 6 f fd ["steps"] (spSS K C IS) := by
  refine F.ok scSS (fun vs H Q E h => by obtain ⟨x, rfl, _⟩ := h; rfl) (fun cdv A outer s H vs Q E hr h => ?_)
  obtain ⟨x, rfl, h⟩ := h
  have hrH : RoomH 2 (A.deeper (envOfC "steps_text" (defScope sSS) s.heap.objs.size f cdv)) := (XP.roomH_of' hr).mono (by decide)
  refine ⟨_, pss_cons (ps_if (PW.pt (pw_or (pt_not (pt_val (pe_cl GL hr (by decide) rfl pass0 (pa_cons (pv 0) pa_nil)))) (pw_or (pt_cmpR op_gt (pe_callB call_len_seq rfl T.len boot_len (pa_cons (pv 0) pa_nil)) (pe_cst rfl (cst_int Cs.ms)) rfl)
      (pw_or1 (pt_not (pt_val (pe_callB (cr_all rfl) rfl T.all boot_all (pa_cons (pe_lc (own := [("step", 1)]) (g := gName 1) (tt := tYes) rfl scSS.nd (pi_seq (pv 0)) (blkOk_by (N := ["steps", "step"]) (sc := defScope sSS) (by decide +kernel))
        (fun _ _ _ _ _ => pg_name (i := 1) scSS.nd rfl (Or.inl rfl)) (fun _ _ _ _ _ => pts_nil) (fun _ _ _ _ _ => pe_cl GI hr (by decide) rfl pass0 (pa_cons (pv 1) pa_nil))) pa_nil))))))))
      (pss_one (L2N.ps_raise rfl (L2N.takes_of rfl rfl rfl rfl) (PMk5.pmk (pmk_ex X1 hrH rfl (pv 0))))) pss_nil)
    (pss_one (ps_ret (pe_join pe_str (pe_lc (own := [("step", 1)]) (g := gName 1) (tt := tYes) rfl scSS.nd (pi_seq (pv 0)) (blkOk_by (N := ["steps", "step"]) (sc := defScope sSS) (by decide +kernel))
        (fun _ _ _ _ _ => pg_name (i := 1) scSS.nd rfl (Or.inl rfl)) (fun _ _ _ _ _ => pts_nil) (fun _ _ _ _ _ => pe_cl GT hr (by decide) rfl passN0 (pa_cons (pv 1) pa_nil)))))), ?_⟩
  have lsz : (100 : Nat) < sizeLine := by decide
  rcases h with ⟨p, xs, sts, rfl, hp, hst, hok, hl, hQ⟩ | ⟨hb, hE⟩
  · refine ⟨_, rfl, _, true, rfl, hp.lty, fun H1 e1 => ⟨true, rfl, iteF ⟨_, rfl, p, xs, rfl, (hp.ext e1).sq, _, _, rfl, rfl, _, rfl, ?_⟩⟩⟩
    have hl2 : decide ((100 : Int) < (xs.length : Nat)) = false := decide_eq_false (by omega)
    rw [hl2]
    refine iteF ⟨_, rfl, p, rfl, lc_seq (R := fun x y _ => y = .bl true) (hp.ext e1) (by omega) (fun _ _ _ _ _ _ _ _ r => r) (fun i x H2 D hx e hD _ Qe k => ?_) (fun H2 D ys hD e hDa hA => ?_)⟩
    · have hi : i < sts.length := by
        rcases Nat.lt_or_ge i xs.length with q | q
        · rw [← hst.1]; exact q
        · rw [List.getElem?_eq_none q] at hx; cases hx
      have q := hst.2 i x _ hx (List.getElem?_eq_getElem hi)
      exact ⟨_, rfl, _, true, rfl, ((q.ext e1).ext e).q (hok _ (List.getElem_mem hi)), fun H3 e3 => k _ _ e3 rfl⟩
    · have ey := all2_bl (p := fun _ => true) hA
      refine ⟨D, xs.map fun _ => true, rfl, SqL.of (by rw [hDa, ey]), _, rfl, ?_⟩
      have et : (xs.map fun _ => true).all id = true := by simp
      rw [et]
      have e2 : Ext H H2 := e1.trans e
      refine iteF ⟨⟨_, rfl⟩, _, rfl, p, rfl, lc_seq (R := fun x y _ => ∀ st, Stp C An H x st → okSt st → y = .str (stText st)) (hp.ext e2) (by omega) (fun _ _ _ _ _ _ _ _ r => r) (fun i x H3 D3 hx e3 hD3 _ Qe k => ?_) (fun H3 D3 ys3 hD3 e3 hDa3 hA3 => ?_)⟩
      · have hi : i < sts.length := by
          rcases Nat.lt_or_ge i xs.length with q | q
          · rw [← hst.1]; exact q
          · rw [List.getElem?_eq_none q] at hx; cases hx
        have q := hst.2 i x _ hx (List.getElem?_eq_getElem hi)
        refine ⟨_, rfl, x, rfl, .inl ⟨_, (q.ext (e2.trans e3)), hok _ (List.getElem_mem hi), fun H4 e4 => k _ _ e4 fun st hs _ => ?_⟩⟩
        rw [stp_inj hs q]
      · have ey3 : ys3 = (sts.map stText).map V.str := by
          refine List.ext_getElem? fun i => ?_
          rcases Nat.lt_or_ge i sts.length with hi | hi
          · have hio : i < xs.length := by rw [hst.1]; exact hi
            have hiy : i < ys3.length := by rw [← hA3.1]; exact hio
            have q := hA3.2 i xs[i] ys3[i] (List.getElem?_eq_getElem hio) (List.getElem?_eq_getElem hiy)
            have z := q sts[i] (hst.2 i _ _ (List.getElem?_eq_getElem hio) (List.getElem?_eq_getElem hi)) (hok _ (List.getElem_mem hi))
            rw [List.getElem?_eq_getElem hiy, z, List.getElem?_map, List.getElem?_map, List.getElem?_eq_getElem hi]
            rfl
          · have hiy : ys3.length ≤ i := by rw [← hA3.1, hst.1]; exact hi
            rw [List.getElem?_eq_none hiy, List.getElem?_map, List.getElem?_map, List.getElem?_eq_none hi]
            rfl
        have hsum := sum_le (ws := sts.map stText) (n := 102) fun z hz => by
          obtain ⟨st, hm, rfl⟩ := List.mem_map.mp hz
          exact stText_len (hok st hm)
        refine ⟨_, D3, sts.map stText, rfl, rfl, .inl (SqL.of (by rw [hDa3, ey3])), ?_, hQ _ (e2.trans e3)⟩
        rw [List.length_map] at hsum ⊢
        have e9 : Str.length "\n" = 1 := by decide
        have h9 : sts.length ≤ 100 := by rw [← hst.1]; exact hl
        rw [e9]
        omega
  · cases hb with
    | no h => exact ⟨_, rfl, _, false, rfl, h, fun H1 e1 => ⟨false, rfl, iteT (iteT ⟨_, rfl, ex_made (hE.ext e1)⟩)⟩⟩
    | @long p xs hp hl =>
      refine ⟨_, rfl, _, true, rfl, hp.lty, fun H1 e1 => ⟨true, rfl, iteF ⟨_, rfl, p, xs, rfl, (hp.ext e1).sq, _, _, rfl, rfl, _, rfl, ?_⟩⟩⟩
      have hl2 : decide ((100 : Int) < (xs.length : Nat)) = true := decide_eq_true (by omega)
      rw [hl2]
      exact iteT (iteT ⟨_, rfl, ex_made (hE.ext e1)⟩)
    | @item p xs bs hp hb hf hl =>
      refine ⟨_, rfl, _, true, rfl, hp.lty, fun H1 e1 => ⟨true, rfl, iteF ⟨_, rfl, p, xs, rfl, (hp.ext e1).sq, _, _, rfl, rfl, _, rfl, ?_⟩⟩⟩
      have hl2 : decide ((100 : Int) < (xs.length : Nat)) = false := decide_eq_false (by omega)
      rw [hl2]
      refine iteF ⟨_, rfl, p, rfl, lc_seq (R := fun x y _ => ∀ b, StepQ C H x b → y = .bl b) (hp.ext e1) (by omega) (fun _ _ _ _ _ _ _ _ r => r) (fun i x H2 D hx e hD _ Qe k => ?_) (fun H2 D ys hD e hDa hA => ?_)⟩
      · have hi : i < bs.length := by
          rcases Nat.lt_or_ge i xs.length with q | q
          · rw [← hb.1]; exact q
          · rw [List.getElem?_eq_none q] at hx; cases hx
        have q := hb.2 i x _ hx (List.getElem?_eq_getElem hi)
        exact ⟨_, rfl, _, bs[i], rfl, ((q.ext e1).ext e), fun H3 e3 => k _ _ e3 fun b hb => by rw [stepQ_inj hb q]⟩
      · have ey : ys = bs.map V.bl := by
          refine List.ext_getElem? fun i => ?_
          rcases Nat.lt_or_ge i bs.length with hi | hi
          · have hio : i < xs.length := by rw [hb.1]; exact hi
            have hiy : i < ys.length := by rw [← hA.1]; exact hio
            have q := hA.2 i xs[i] ys[i] (List.getElem?_eq_getElem hio) (List.getElem?_eq_getElem hiy)
            have z := q bs[i] (hb.2 i _ _ (List.getElem?_eq_getElem hio) (List.getElem?_eq_getElem hi))
            rw [List.getElem?_eq_getElem hiy, z, List.getElem?_map, List.getElem?_eq_getElem hi]
            rfl
          · have hiy : ys.length ≤ i := by rw [← hA.1, hb.1]; exact hi
            rw [List.getElem?_eq_none hiy, List.getElem?_map, List.getElem?_eq_none hi]
            rfl
        refine ⟨D, bs, rfl, SqL.of (by rw [hDa, ey]), _, rfl, ?_⟩
        rw [hf]
        exact iteT ⟨_, rfl, ex_made (hE.ext (e1.trans e))⟩
end
end S78
/-! F7: parse_step. -/
namespace S78
open PySem PySem.Spec PyProof.Rows L2 SN HotX L2H
abbrev sPS : Stmt := top 31
theorem scPS : FnScope ["text", "word", "space", "rest", "parts", "part"] ["text"] (defScope sPS) := ⟨rfl, rfl, rfl, by decide +kernel, rfl, by decide +kernel, by decide +kernel⟩
/-- all orders of the parts, or none -/
def pOrds : List Str → Option (List (List Str))
  | [] => some []
  | p :: ps => match pOrd p with
    | none => none
    | some ws => (pOrds ps).map (ws :: ·)
/-- the step that a text tells -/
def pSt (z : Str) : Option (Str × List (List Str)) :=
  let w := (Txt.partition z " ").1
  let parts := Txt.split (Txt.partition z " ").2.2 " > "
  if (w = "build" ∨ w = "drop" ∨ w = "relay") ∧ parts.length = (if w = "relay" then 2 else 1) then (pOrds parts).map (w, ·) else none
def NewStp (C : Addr) (st : Str × List (List Str)) (H : Hp) (Q : VK) : Prop := ∀ v H', Ext H H' → Stp C (fun b => H b = none) H' v st → Q v H'
/-- not a text -/
inductive NStr (H : Hp) : V → Prop where
  | non : NStr H .non
  | int (i : Int) : NStr H (.int i)
  | lst {a : Addr} {xs : List V} (h : H a = some (.lst xs)) : NStr H (.ref a)
  | tup {a : Addr} {xs : List V} (h : H a = some (.tup xs)) : NStr H (.ref a)
  | dct {a : Addr} {kvs : List (Key × V)} (h : H a = some (.dK kvs)) : NStr H (.ref a)
theorem NStr.ty {K : PySem.W.Frag} {H : Hp} {x : V} (h : NStr H x) : ∃ t, TyX K H x t ∧ PySem.W.kitOne K t (.type "str") = some false := by
  cases h with
  | non => exact ⟨_, .base .non, kit_ty (by decide +kernel)⟩
  | int i => exact ⟨_, .base (.int i), kit_ty (by decide +kernel)⟩
  | lst h => exact ⟨_, .base (.lst h), kit_ty (by decide +kernel)⟩
  | tup h => exact ⟨_, .base (.tup h), kit_ty (by decide +kernel)⟩
  | dct h => exact ⟨_, .base (.dK h), kit_ty (by decide +kernel)⟩
def spPS (C IT : Addr) : Sp := fun vs H Q E => ∃ x, vs = [x] ∧ ((∃ z : Str, x = .str z ∧ z.length ≤ 1000000 ∧ (∀ st, pSt z = some st → NewStp C st H Q) ∧ (pSt z = none → ExNew IT "value" (.str z) H E)) ∨ (NStr H x ∧ ExNew IT "value" x H E))
theorem PS.of_ok {X : Cx} {st : Stmt} {t : TS} (h : X.Ok → PS X st t) : PS X st t := ⟨fun pins s σ H D I q => (h I.ok).run pins s σ H D I q⟩
theorem takes2F {X : Cx} : L2.Takes X (fun _ _ _ _ => False) := fun _ _ x => by
  obtain ⟨_, _, _, _, _, _, _, _, _, _, _, _, _, _, _, _, z⟩ := x
  exact z.elim
section
variable {P : Program} {w : World} {K : PySem.W.Frag} {mg : Str → Option Value} {base : Heap} {f : Addr} {fd : FuncData} {C IS IT IL : Addr}
theorem pOrds_none {u : Str} : ∀ {ps : List Str}, u ∈ ps → pOrd u = none → pOrds ps = none
  | [], h, _ => by cases h
  | p :: ps, h, hu => by
    unfold pOrds
    cases hp : pOrd p with
    | none => rfl
    | some ws =>
      rcases List.mem_cons.mp h with rfl | h
      · rw [hp] at hu; cases hu
      · show (pOrds ps).map (ws :: ·) = none
        rw [pOrds_none h hu]
        rfl
theorem ords_all {S : Addr → Prop} {H : Hp} : ∀ {ps : List Str} {ys : List V}, All2 (fun x y => ∃ u ws, x = .str u ∧ pOrd u = some ws ∧ OrdV C S H y ws) (ps.map V.str) ys → ∃ oss, pOrds ps = some oss ∧ All2 (OrdV C S H) ys oss
  | [], ys, h => by
    have e : ys = [] := by
      have := h.1
      cases ys with
      | nil => rfl
      | cons y ys => simp at this
    subst e
    exact ⟨[], rfl, .nil⟩
  | p :: ps, ys, h => by
    cases ys with
    | nil => have := h.1; simp at this
    | cons y ys =>
      obtain ⟨u, ws, e, hp, ho⟩ := h.2 0 _ _ rfl rfl
      cases e
      obtain ⟨oss, h1, h2⟩ := ords_all (ps := ps) (ys := ys) ⟨by have := h.1; simpa using this, fun i a b q1 q2 => h.2 (i + 1) a b (by simpa using q1) (by simpa using q2)⟩
      refine ⟨ws :: oss, ?_, .cons ho h2⟩
      unfold pOrds
      rw [hp]
      show (pOrds ps).map (ws :: ·) = _
      rw [h1]
      rfl
theorem ok_PS (F : FnP K "parse_step" sPS f fd) (T : Fre mg) (Cs : Cst mg) (GP : Cl P w K mg base (L2N.CX P w) 5 "parse_order" (spPO C IT) []) (X1 : ExF P w K mg base "InvalidText" "value" IT) (hII : PySem.W.exmOne K (.ref IT) (.ref IT) = some true) :
    FnOk P w K mg base (XP.CXp P w) 6 f fd ["text"] (spPS C IT) := by
  refine F.ok scPS (fun vs H Q E h => by obtain ⟨x, rfl, _⟩ := h; rfl) (fun cdv A outer s H vs Q E hr h => ?_)
  obtain ⟨x, rfl, h⟩ := h
  have hrH : RoomH 2 (A.deeper (envOfC "parse_step" (defScope sPS) s.heap.objs.size f cdv)) := (XP.roomH_of' hr).mono (by decide)
  have tkP : XP.Takes (cxOf (XP.CXp P w) P w K mg base ["text", "word", "space", "rest", "parts", "part"] "parse_step" (defScope sPS) f cdv A outer s H E) (fun cls d _ H => E cls d H) := XP.takes_of rfl rfl rfl rfl
  refine ⟨_, pss_cons (ps_if (pt_not (pt_val (pe_callB call_isi rfl T.isi boot_isinstance (pa_cons (pv 0) (pa_cons (pe_bltn rfl T.str boot_str (v := .ty "str") rfl) pa_nil))))) (pss_one (L2N.ps_raise rfl tkP.n (PMk5.pmk (pmk_ex X1 hrH rfl (pv 0))))) pss_nil)
    (pss_cons (ps_asg (pe_partition (pv 0) pe_str) (pg_tup (n := 3) rfl (by exact pgs_cons (pg_name (i := 1) scPS.nd rfl (Or.inl rfl)) (pgs_cons (pg_name (i := 2) scPS.nd rfl (Or.inl rfl)) (pgs_cons (pg_name (i := 3) scPS.nd rfl (Or.inl rfl)) pgs_nil)))))
    (pss_cons (ps_set (i := 4) scPS.nd rfl (Or.inl rfl) (pe_split (pv 3) (pe_cst rfl (cst_str Cs.tw))))
    (pss_cons (ps_if (PW.pt (pw_or (pt_cmpR op_notIn_seq (pv 1) (pe_tup (pa_cons (pe_cst rfl (cst_str Cs.build)) (pa_cons (pe_cst rfl (cst_str Cs.drop)) (pa_cons (pe_cst rfl (cst_str Cs.relay)) pa_nil)))) rfl)
        (pw_or1 (pt_cmpR op_ne (pe_callB call_len_seq rfl T.len boot_len (pa_cons (pv 4) pa_nil)) (pe_ifExp (pt_cmpR op_eq (pv 1) (pe_cst rfl (cst_str Cs.relay)) rfl) pe_int pe_int) rfl)))) (pss_one (L2N.ps_raise rfl tkP.n (PMk5.pmk (pmk_ex X1 hrH rfl (pv 0))))) pss_nil)
    (pss_one (PS.of_ok fun ok => ps_try_onlyX (c := .ref IT) (Wout := fun _ _ _ _ => False) (tb := fun W D σ H => (fun σ H Q => tTup (tCons (tVar 1) (StX.tStar K (fun σ => tLc (iList K (tVar 4)) (gName 5) tYes (tCall (spPO C IT) [] (fun cls d H => W cls d σ H) (tCons (tVar 5) tNil)) [5] σ) tNil)) σ H Q) σ H D.rt)
        (ts := fun a cls d D σ H => tMkO IT (spEI IT "value") [] (tCons (tVar 0) tNil) σ H fun cls d H' => E cls d H') rfl rfl ⟨rfl, by decide, .inl X1.hm⟩ (fun hd => PassesOwnAt.leaving) takes2F
        (fun W pn xe tk _ _ => pss_one (ps_ret (pe_tup (pa_cons (pv 1) (StX.pa_star (XP.pe_lcX (own := [("part", 5)]) (g := gName 5) (tt := tYes) (te := fun σ0 => tCall (spPO C IT) [] (fun cls d H => W cls d σ0 H) (tCons (tVar 5) tNil)) rfl rfl tk rfl scPS.nd (pi_list (pv 4)) (blkOk_by (N := ["text", "word", "space", "rest", "parts", "part"]) (sc := defScope sPS) (by decide +kernel))
            (fun _ _ _ _ _ => pg_name (i := 5) scPS.nd rfl (Or.inl rfl)) (fun _ _ _ _ _ => pts_nil) (by intro σ0 s1 H1 C1 cl1 fp1 xe1 hB; exact pe_cl GP hr (by decide) rfl (fun pins σ' H' s' e s'' I c => hB _ pins σ' H' s' e s'' (fun _ _ _ h => h) I c) (pa_cons (pv 5) pa_nil)))
            pa_nil)))))
        (fun a oe cls d pn _ _ _ hot => pss_one (XP.ps_raiseP hot (XP.takes_suite rfl ok tkP _ _) (pmk_ex X1 ⟨hrH.dp, hrH.un⟩ rfl (pv 0))))))))), ?_⟩
  have hIT : ∀ {H1}, Ext H H1 → ExNew IT "value" x H E → ExNew IT "value" x H1 E := fun e h => h.ext e
  rcases h with ⟨z, rfl, hz, hQ, hE⟩ | ⟨hn, hE⟩
  case inr =>
    obtain ⟨t, ty, kt⟩ := hn.ty (K := K)
    exact ⟨_, rfl, _, _, _, _, false, rfl, .ty "str", ty, kt, false, rfl, iteT ⟨_, rfl, ex_made hE⟩⟩
  refine ⟨_, rfl, _, _, _, _, true, rfl, .ty "str", .base (.str _), kit_ty (by decide +kernel), true, rfl, iteF ?_⟩
  have hls : (1000002 : Nat) ≤ sizeLine := by decide
  obtain ⟨f1, f2, f3⟩ := fact_partition z " "
  refine ⟨_, rfl, ⟨_, rfl⟩, z, " ", rfl, rfl, by decide, by omega, fun p1 hp1 => ⟨p1, _, rfl, SqT.of upd_same, rfl, _, _, rfl, _, _, rfl, _, _, rfl, rfl, ?_⟩⟩
  have e1 := Ext.upd (o := HO.tup [.str (Txt.partition z " ").1, .str (Txt.partition z " ").2.1, .str (Txt.partition z " ").2.2]) hp1
  generalize upd H p1 _ = H1 at e1
  have hpst : pSt z = if ((Txt.partition z " ").1 = "build" ∨ (Txt.partition z " ").1 = "drop" ∨ (Txt.partition z " ").1 = "relay") ∧ (Txt.split (Txt.partition z " ").2.2 " > ").length = (if (Txt.partition z " ").1 = "relay" then 2 else 1) then (pOrds (Txt.split (Txt.partition z " ").2.2 " > ")).map ((Txt.partition z " ").1, ·) else none := rfl
  generalize (Txt.partition z " ").1 = w0 at f1 hpst ⊢
  generalize (Txt.partition z " ").2.1 = sp0 at f2 ⊢
  generalize (Txt.partition z " ").2.2 = r0 at f3 hpst ⊢
  refine ⟨_, rfl, ⟨_, rfl⟩, r0, " > ", rfl, rfl, by decide, by omega, fun p2 hp2 => ?_⟩
  have e2 := e1.trans (Ext.upd (o := HO.lst ((Txt.split r0 " > ").map V.str)) hp2)
  have h2 : upd H1 p2 (HO.lst ((Txt.split r0 " > ").map V.str)) p2 = some (.lst ((Txt.split r0 " > ").map V.str)) := upd_same
  have hps : ∀ u ∈ Txt.split r0 " > ", u.length ≤ r0.length := fun u hu => part_short hu
  have hpl : (Txt.split r0 " > ").length ≤ r0.length + 2 := split_le r0 " > "
  generalize Txt.split r0 " > " = parts at e2 h2 hps hpl hpst
  generalize upd H1 p2 _ = H2 at e2 h2
  refine ⟨_, rfl, by show 3 ≤ sizeLine; decide, fun p3 hp3 => ⟨p3, _, rfl, .inr (SqT.of upd_same), rfl, rfl, _, rfl, ?_⟩⟩
  have e3 := e2.trans (Ext.upd (o := HO.tup [.str "build", .str "drop", .str "relay"]) hp3)
  have h3 : upd H2 p3 (HO.tup [.str "build", .str "drop", .str "relay"]) p2 = some (.lst (parts.map V.str)) := (Ext.upd hp3) _ _ h2
  generalize upd H2 p3 _ = H3 at e3 h3
  have ein : inV (.str w0) [.str "build", .str "drop", .str "relay"] = decide (w0 ∈ (["build", "drop", "relay"] : List Str)) := inV_strs (ws := ["build", "drop", "relay"])
  show if (!inV (.str w0) [.str "build", .str "drop", .str "relay"]) = true then _ else _
  rw [ein]
  refine iteN (fun hw => ?_) (fun hw => ?_)
  · have hpn : pSt z = none := by
      rw [hpst, if_neg]
      intro q
      have := of_decide_eq_false hw
      simp only [List.mem_cons, List.not_mem_nil, or_false] at this
      exact this q.1
    exact iteT ⟨_, rfl, ex_made ((hE hpn).ext e3)⟩
  · have hw3 : w0 = "build" ∨ w0 = "drop" ∨ w0 = "relay" := by
      have := of_decide_eq_true hw
      simpa only [List.mem_cons, List.not_mem_nil, or_false] using this
    refine ⟨_, rfl, p2, _, rfl, .inl (SqL.of h3), _, rfl, rfl, _, rfl, ?_⟩
    have key : ∀ n : Nat, (n : Int) = (if w0 = "relay" then 2 else 1) → scal (.int ((parts.map V.str).length : Nat)) (.int (n : Int)) = true ∧
        (fun x H' => ∃ k, x = V.bl k ∧ if k = true then tMkO IT (spEI IT "value") [] (tCons (tVar 0) tNil) [some (.str z), some (.str w0), some (.str sp0), some (.str r0), some (.ref p2), none] H' (fun cls d H' => E cls d H')
          else tTup (tCons (tVar 1) (StX.tStar K (fun σ => tLc (iList K (tVar 4)) (gName 5) tYes (tCall (spPO C IT) [] (fun cls d H => wOnly K (.ref IT) (fun a cls d D σ H => tMkO IT (spEI IT "value") [] (tCons (tVar 0) tNil) σ H fun cls d H' => E cls d H') (fun _ _ _ _ => False) { nx := fun _ H' => Q .non H', rt := Q } cls d [some (.str z), some (.str w0), some (.str sp0), some (.str r0), some (.ref p2), none] H) (tCons (tVar 5) tNil)) [5] σ) tNil)) [some (.str z), some (.str w0), some (.str sp0), some (.str r0), some (.ref p2), none] H' Q)
          (.bl (!decide (V.int ((parts.map V.str).length : Nat) = .int (n : Int)))) H3 := fun n hn => by
      refine ⟨rfl, _, rfl, ?_⟩
      have hn2 : n = if w0 = "relay" then 2 else 1 := by
        by_cases hr2 : w0 = "relay"
        · rw [if_pos hr2] at hn ⊢; omega
        · rw [if_neg hr2] at hn ⊢; omega
      by_cases hl : parts.length = n
      · have ed : decide (V.int ((parts.map V.str).length : Nat) = .int (n : Int)) = true := decide_eq_true (by rw [List.length_map, hl])
        rw [ed]
        have hpst2 : pSt z = (pOrds parts).map (w0, ·) := by rw [hpst, if_pos ⟨hw3, hl.trans hn2⟩]
        have hn1 : n ≤ 2 := by rw [hn2]; split <;> omega
        refine iteF ⟨_, rfl, _, rfl, p2, rfl, ⟨_, SqL.of h3⟩, fun D hD => lc_map (R := fun x y H' => ∃ u ws, x = .str u ∧ pOrd u = some ws ∧ OrdV C (fun b => b ≠ D ∧ H b = none) H' y ws) walk_list hD (fun H4 e4 => SqL.of (e4 _ _ h3)) (by rw [List.length_map]; omega) (fun x y H4 H5 e4 k r => ?_) (fun i x acc H4 hx e4 hDa Qe k => ?_) (fun H4 ys e4 hDa hA => ?_)⟩
        · obtain ⟨u, ws, hu, hp, ho⟩ := r
          exact ⟨u, ws, hu, hp, ho.mono (fun _ q => q) fun b o q h _ => k b o q.1 h⟩
        · obtain ⟨u, rfl, hu⟩ := map_get hx
          have hum : u ∈ parts := List.mem_of_getElem? hu
          refine ⟨_, rfl, u, rfl, ?_, fun ws hp a H5 e5 o => k _ _ e5 ⟨u, ws, rfl, hp, a, rfl, o.mono (fun b hb => ⟨fun q => ?_, ext_none (e3.trans e4) hb⟩) fun b o q h _ => h⟩, fun hp d H5 e5 hd h5 => ⟨true, hII, fun _ a ha => ⟨_, rfl, ?_⟩, fun q => by cases q⟩⟩
          · have := hps u hum; omega
          · rw [q, hDa] at hb; cases hb
          · have hpn : pSt z = none := by rw [hpst2, pOrds_none hum hp]; rfl
            exact ex_made ((hE hpn).ext ((e3.trans e4).trans e5))
        · obtain ⟨oss, hos, hA2⟩ := ords_all hA
          have hyl : ys.length = parts.length := by rw [← hA.1, List.length_map]
          refine ⟨D, ys, rfl, .inr (SqL.of hDa), ?_, fun p hp => ?_⟩
          · show ((.str w0 :: (ys ++ [])) : List V).length ≤ sizeLine
            rw [List.length_cons, List.append_nil, hyl]
            omega
          · have hst : pSt z = some (w0, oss) := by rw [hpst2, hos]; rfl
            have e5 : Ext H H4 := e3.trans e4
            refine hQ _ hst _ _ (e5.upd' hp) ⟨p, ys, rfl, ext_none e5 hp, ?_, hA2.imp fun x y o => o.mono (fun b q => q.2) fun b u q h _ => (Ext.upd hp) b u h⟩
            rw [upd_same, List.append_nil]
      · have ed : decide (V.int ((parts.map V.str).length : Nat) = .int (n : Int)) = false := decide_eq_false (fun q => hl (by
          injection q with q
          rw [List.length_map] at q
          omega))
        rw [ed]
        have hpn : pSt z = none := by
          rw [hpst, if_neg]
          intro q
          exact hl (q.2.trans hn2.symm)
        exact iteT ⟨_, rfl, ex_made ((hE hpn).ext e3)⟩
    show if decide (V.str w0 = .str "relay") = true then _ else _
    by_cases hr2 : w0 = "relay"
    · rw [decide_eq_true (by rw [hr2])]
      exact iteT (key 2 (by rw [if_pos hr2]; rfl))
    · rw [decide_eq_false (fun q => hr2 (by injection q))]
      exact iteF (key 1 (by rw [if_neg hr2]; rfl))
end
end S78
/-! F8: parse_steps. -/
namespace S78
open PySem PySem.Spec PyProof.Rows L2 SN HotX L2H
abbrev sPX : Stmt := top 33
theorem scPX : FnScope ["text", "found", "index", "line"] ["text"] (defScope sPX) := ⟨rfl, rfl, rfl, by decide +kernel, rfl, by decide +kernel, by decide +kernel⟩
/-- the steps of the lines from the k-th on, or the first line that tells none -/
def pLines : Nat → List Str → Sum Nat (List (Str × List (List Str)))
  | _, [] => .inr []
  | k, l :: ls => if k = 100 then .inl k else match pSt l with
    | none => .inl k
    | some st => match pLines (k + 1) ls with
      | .inl i => .inl i
      | .inr sts => .inr (st :: sts)
def linesOf (z : Str) : List Str := if z = Str.empty then [] else Txt.split z "\n"
theorem pl_ok : ∀ {ls : List Str} {sts : List (Str × List (List Str))} {k : Nat}, All2 (fun l st => pSt l = some st) ls sts → k + ls.length ≤ 100 → pLines k ls = .inr sts
  | [], sts, k, h, _ => by
    have e : sts = [] := by
      have := h.1
      cases sts with
      | nil => rfl
      | cons y ys => simp at this
    rw [e]
    rfl
  | l :: ls, sts, k, h, hk => by
    cases sts with
    | nil => have := h.1; simp at this
    | cons st sts =>
      have h0 : pSt l = some st := h.2 0 _ _ rfl rfl
      rw [List.length_cons] at hk
      have ih := pl_ok (ls := ls) (sts := sts) (k := k + 1) ⟨by have := h.1; simpa using this, fun i a b q1 q2 => h.2 (i + 1) a b (by simpa using q1) (by simpa using q2)⟩ (by omega)
      unfold pLines
      rw [if_neg (by omega), h0]
      show (match pLines (k + 1) ls with | .inl i => Sum.inl i | .inr sts => Sum.inr (st :: sts)) = _
      rw [ih]
theorem pl_bad : ∀ {ls : List Str} {sts : List (Str × List (List Str))} {k i : Nat} {l : Str}, All2 (fun l st => pSt l = some st) (ls.take i) sts → ls[i]? = some l → (k + i = 100 ∨ (k + i < 100 ∧ pSt l = none)) → pLines k ls = .inl (k + i)
  | [], _, _, i, _, _, h, _ => by simp at h
  | l' :: ls, sts, k, 0, l, h, hl, hb => by
    have e : l' = l := by simpa using hl
    subst e
    unfold pLines
    rcases hb with hb | ⟨hb, hn⟩
    · rw [if_pos (by omega)]; rfl
    · rw [if_neg (by omega), hn]; rfl
  | l' :: ls, sts, k, i + 1, l, h, hl, hb => by
    rw [List.take_succ_cons] at h
    cases sts with
    | nil => have := h.1; simp at this
    | cons st sts =>
      have h0 : pSt l' = some st := h.2 0 _ _ rfl rfl
      have ih := pl_bad (ls := ls) (sts := sts) (k := k + 1) (i := i) (l := l) ⟨by have := h.1; simpa using this, fun j a b q1 q2 => h.2 (j + 1) a b (by simpa using q1) (by simpa using q2)⟩ (by simpa using hl) (by
        rcases hb with hb | ⟨hb, hn⟩
        · exact .inl (by omega)
        · exact .inr ⟨by omega, hn⟩)
      unfold pLines
      rw [if_neg (by rcases hb with hb | ⟨hb, _⟩ <;> omega), h0]
      show (match pLines (k + 1) ls with | .inl i => Sum.inl i | .inr sts => Sum.inr (st :: sts)) = _
      rw [ih]
      show Sum.inl (k + 1 + i) = Sum.inl (k + (i + 1))
      congr 1
      omega
def NewSteps (C : Addr) (sts : List (Str × List (List Str))) (H : Hp) (Q : VK) : Prop := ∀ p H' xs, Ext H H' → H p = none → H' p = some (.lst xs) → All2 (Stp C (fun b => b ≠ p ∧ H b = none) H') xs sts → Q (.ref p) H'
def spPX (C IT IL : Addr) : Sp := fun vs H Q E => ∃ x, vs = [x] ∧ ((∃ z : Str, x = .str z ∧ z.length ≤ 100000 ∧ (∀ sts, pLines 0 (linesOf z) = .inr sts → NewSteps C sts H Q) ∧ (∀ i : Nat, pLines 0 (linesOf z) = .inl i → ExNew IL "index" (.int (i : Nat)) H E)) ∨ (NStr H x ∧ ExNew IT "value" x H E))
section
variable {P : Program} {w : World} {K : PySem.W.Frag} {mg : Str → Option Value} {base : Heap} {f : Addr} {fd : FuncData} {C IS IT IL : Addr}
theorem pe_clS {X : Cx} {CX : CXT} {k j : Nat} {x : Str} {sp : Sp} {E : L2.St → XK} {e : Expr} {es : List Expr} {t : TA} {p pos : Pos} (c : Cl X.prog X.w X.K X.mg X.base CX k x sp []) (hr : Room j X.A) (hk : k ≤ j) (hg : Gl X x) (hx : ∀ σ, PassesAt CX X σ (E σ)) (ha : PA X (e :: es) t)
    (hdb : (x == ("__debug__" : Str)) = false := by decide) (he : starEach (e :: es) X.env = (false, eval e X.env) :: starEach es X.env := by rfl) (hpl : (backTo pos (starEach es X.env)).any (·.1) = false := by rfl) : PE X (.Call (.Name x p) (e :: es) [] pos) (tCallS sp E t) := by
  obtain ⟨f, fd, ps, ds, F, hm, hkp, hb, hd⟩ := c.ex
  cases hd
  exact pe_callS F (hr.mono hk) hg hm hkp hb hx ha hdb he hpl
theorem ok_PX (F : FnP K "parse_steps" sPX f fd) (T : Fre mg) (Cs : Cst mg) (GP : Cl P w K mg base (XP.CXp P w) 6 "parse_step" (spPS C IT) []) (X1 : ExF P w K mg base "InvalidText" "value" IT) (X2 : ExF P w K mg base "InvalidLine" "index" IL) (hII : PySem.W.exmOne K (.ref IT) (.ref IT) = some true) :
    FnOk P w K mg base (L2.CX P w) 7 f fd ["text"] (spPX C IT IL) := by
  refine F.ok scPX (fun vs H Q E h => by obtain ⟨x, rfl, _⟩ := h; rfl) (fun cdv A outer s H vs Q E hr h => ?_)
  obtain ⟨x, rfl, h⟩ := h
  have hrH : RoomH 2 (A.deeper (envOfC "parse_steps" (defScope sPX) s.heap.objs.size f cdv)) := (XP.roomH_of' hr).mono (by decide)
  have tk2 : L2.Takes (cxOf (L2.CX P w) P w K mg base ["text", "found", "index", "line"] "parse_steps" (defScope sPX) f cdv A outer s H E) (fun cls d _ H => E cls d H) := L2.takes_of rfl rfl rfl rfl
  refine ⟨_, pss_cons (ps_if (pt_not (pt_val (pe_callB (r := rIsi K) call_isi rfl T.isi boot_isinstance (pa_cons (pv 0) (pa_cons (pe_bltn rfl T.str boot_str (v := .ty "str") rfl) pa_nil))))) (pss_one (L2N.ps_raise rfl (XP.takes2_n tk2) (PMk5.pmk (pmk_ex X1 hrH rfl (pv 0))))) pss_nil)
    (pss_cons (ps_set (i := 1) scPX.nd rfl (Or.inl rfl) (pe_lst pa_nil))
    (pss_cons (ps_for PassesOwn.leaving rfl (pi_enum rfl T.enum (pa_cons (pe_ifExp (pt_cmpR op_ne (pv 0) pe_str rfl) (pe_split (pv 0) pe_str) (pe_lst pa_nil)) pa_nil)) (pg_tup (n := 2) rfl (by exact pgs_cons (pg_name (i := 2) scPX.nd rfl (Or.inl rfl)) (pgs_cons (pg_name (i := 3) scPX.nd rfl (Or.inl rfl)) pgs_nil)))
      (pss_cons (ps_if (pt_cmpR op_eq (pv 2) (pe_cst rfl (cst_int Cs.ms)) rfl) (pss_one (L2N.ps_raise rfl (XP.takes2_n tk2) (PMk5.pmk (pmk_ex X2 hrH rfl (pv 2))))) pss_nil)
      (pss_one (XP.ps_tryP (c := .ref IT) (Wout := fun cls d _ H => E cls d H) (tb := fun W D σ H => tDrop (tBM K "list" rAppend (tVar 1) (tCons (tCallS (spPS C IT) (WE W) (tCons (tVar 3) tNil)) tNil)) D σ H)
        (ts := fun a cls d D σ H => tMkO IL (spEI IL "index") [] (tCons (tVar 2) tNil) σ H fun cls d H' => E cls d H') rfl rfl ⟨rfl, by decide, .inl X1.hm⟩ (fun hd => PassesOwnAt.leaving) tk2
        (fun W pn xe tk => pss_one (ps_expr (pe_bm PySem.F.plainAttrs_list PySem.F.slot_list_append PySem.F.type_list_append mt_append (pv 1) (pa_cons (pe_clS GP hr (by decide) rfl (fun σ => XP.passAt tk σ) (pa_cons (pv 3) pa_nil)) pa_nil))))
        (fun a cls d pn tkS hot => pss_one (XP.ps_raise2 hot tkS (pmk_ex X2 ⟨hrH.dp, hrH.un⟩ rfl (pv 2))))))))
    (pss_one (ps_ret (pv 1))))), ?_⟩
  rcases h with ⟨z, rfl, hz, hQ, hE⟩ | ⟨hn, hE⟩
  case inr =>
    obtain ⟨t, ty, kt⟩ := hn.ty (K := K)
    exact ⟨_, rfl, _, _, _, _, false, rfl, .ty "str", ty, kt, false, rfl, iteT ⟨_, rfl, ex_made hE⟩⟩
  have hls : (100002 : Nat) < sizeLine := by decide
  refine ⟨_, rfl, _, _, _, _, true, rfl, .ty "str", .base (.str _), kit_ty (by decide +kernel), true, rfl, iteF ⟨by decide, fun D hD => ⟨_, rfl, rfl, _, rfl, iteN (fun hc => ?_) (fun hc => ?_)⟩⟩⟩
  · refine ⟨_, rfl, ⟨_, rfl⟩, z, "\n", rfl, rfl, by decide, by omega, fun p hp => ?_⟩
    have hlin : Txt.split z "\n" = linesOf z := (if_neg (fun q => of_decide_eq_false hc (congrArg V.str q))).symm
    rw [hlin]
    have hp1 : upd (upd H D (.lst [])) p (.lst ((linesOf z).map V.str)) p = some (.lst ((linesOf z).map V.str)) := upd_same
    have hpD : D ≠ p := fun q => by rw [← q, upd_same] at hp; cases hp
    have hD1 : upd (upd H D (.lst [])) p (.lst ((linesOf z).map V.str)) D = some (.lst []) := by rw [upd_ne hpD, upd_same]
    have e1 : Ext H (upd (upd H D (.lst [])) p (.lst ((linesOf z).map V.str))) := (Ext.upd hD).upd' hp
    generalize upd (upd H D (.lst [])) p (.lst ((linesOf z).map V.str)) = H1 at hp1 hD1 e1
    refine ⟨p, _, rfl, SqL.of hp1, for_it (walk_enum (xs := (linesOf z).map V.str)) (fun i σ H3 => ∃ a b acc sts, σ = [some (.str z), some (.ref D), a, b] ∧ Ext H H3 ∧ H3 p = some (.lst ((linesOf z).map V.str)) ∧ H3 D = some (.lst acc) ∧
        All2 (Stp C (fun b => b ≠ D ∧ H b = none) H3) acc sts ∧ All2 (fun l st => pSt l = some st) ((linesOf z).take i) sts ∧ i ≤ 100) ?_ ?_ ?_ ?_⟩
    · exact ⟨_, _, [], [], rfl, e1, hp1, hD1, .nil, .nil, Nat.zero_le _⟩
    · rintro i σ H3 hi ⟨a, b, acc, sts, rfl, e3, hp3, _⟩
      exact SqL.of hp3
    · rintro i v σ H3 H4 hi ⟨a, b, acc, sts, rfl, e3, hp3, hD3, hA, hS, hi100⟩ ⟨T, x, y, rfl, hT, rfl, ex, hy⟩
      cases ex
      obtain ⟨l, rfl, hl⟩ := map_get hy
      have e4 : Ext H (upd H3 T (.tup [.int (i : Nat), .str l])) := e3.upd' hT
      have hp4 := (Ext.upd (o := HO.tup [.int (i : Nat), .str l]) hT) _ _ hp3
      have hD4 := (Ext.upd (o := HO.tup [.int (i : Nat), .str l]) hT) _ _ hD3
      have hA4 := hA.imp fun x y (o : Stp C (fun b => b ≠ D ∧ H b = none) H3 x y) => o.ext (Ext.upd (o := HO.tup [.int (i : Nat), .str l]) hT)
      have hT4 : upd H3 T (.tup [.int (i : Nat), .str l]) T = some (.tup [.int (i : Nat), .str l]) := upd_same
      generalize upd H3 T (.tup [.int (i : Nat), .str l]) = H4 at e4 hp4 hD4 hA4 hT4
      refine ⟨T, _, rfl, SqT.of hT4, rfl, _, _, rfl, _, _, rfl, rfl, ?_⟩
      refine ⟨_, rfl, rfl, _, rfl, iteB (fun h100 => ?_) (fun h100 => ?_)⟩
      · have hi2 : i = 100 := by
          have q := of_decide_eq_true h100
          injection q with q
          omega
        have hpl : pLines 0 (linesOf z) = .inl i := by
          have q := pl_bad (k := 0) hS hl (.inl (by omega))
          rw [q, Nat.zero_add]
        exact ⟨_, rfl, ex_made ((hE i hpl).ext e4)⟩
      · have hi2 : i < 100 := by
          have q := of_decide_eq_false h100
          have q2 : i ≠ 100 := fun q3 => q (by rw [q3]; rfl)
          omega
        have hll : l.length ≤ 100000 := by
          have hm : l ∈ linesOf z := List.mem_of_getElem? hl
          unfold linesOf at hm
          split at hm
          · cases hm
          · exact Nat.le_trans (part_short hm) hz
        have hal : acc.length ≤ 100 := by
          have q := hS.1
          rw [List.length_take] at q
          have q2 := hA.1
          omega
        refine ⟨_, rfl, .inl ⟨rfl, _, SqL.of hD4⟩, _, rfl, _, rfl, .inl ⟨l, rfl, by omega, fun st hst v H5 e5 ho => ⟨D, acc, v, rfl, rfl, e5 _ _ hD4, by omega, ?_⟩, fun hn d H5 e5 hd h5 => ⟨hII, fun a ha => ⟨_, rfl, ex_made ?_⟩⟩⟩⟩
        · have k5 : KpB D H4 (upd H5 D (.lst (acc ++ [v]))) := (KpB.of e5).trans .at
          refine ⟨_, _, acc ++ [v], sts ++ [st], rfl, ext_set (e4.trans e5) hD, ?_, upd_same, ?_, ?_, hi2⟩
          · exact k5 _ _ hpD.symm hp4
          · refine All2.snoc (hA4.imp fun x y o => o.mono (fun b q => q) fun b u q h _ => k5 b u q.1 h) (ho.mono (fun b hb => ⟨fun q => ?_, ext_none e4 hb⟩) fun b u hb h _ => ?_)
            · rw [q, hD4] at hb; cases hb
            · have hbD : b ≠ D := fun q => by rw [q, hD4] at hb; cases hb
              rw [upd_ne hbD]
              exact h
          · have ht : (linesOf z).take (i + 1) = (linesOf z).take i ++ [l] := by rw [List.take_add_one, hl]; rfl
            rw [ht]
            exact hS.snoc hst
        · have hpl : pLines 0 (linesOf z) = .inl i := by
            have q := pl_bad (k := 0) hS hl (.inr ⟨by omega, hn⟩)
            rw [q, Nat.zero_add]
          exact (hE i hpl).ext (e4.trans e5)
    · rintro σ H3 ⟨a, b, acc, sts, rfl, e3, hp3, hD3, hA, hS, hi100⟩
      rw [List.length_map, List.take_length] at hS
      rw [List.length_map] at hi100
      exact ⟨_, rfl, hQ sts (pl_ok hS (by omega)) D H3 acc e3 hD hD3 hA⟩
  · refine ⟨by decide, fun p hp => ?_⟩
    have hlin : ([] : List Str) = linesOf z := (if_pos (by have q := of_decide_eq_true hc; injection q)).symm
    have hp1 : upd (upd H D (.lst [])) p (.lst []) p = some (.lst ((linesOf z).map V.str)) := by rw [upd_same, ← hlin]; rfl
    have hpD : D ≠ p := fun q => by rw [← q, upd_same] at hp; cases hp
    have hD1 : upd (upd H D (.lst [])) p (.lst []) D = some (.lst []) := by rw [upd_ne hpD, upd_same]
    have e1 : Ext H (upd (upd H D (.lst [])) p (.lst [])) := (Ext.upd hD).upd' hp
    generalize upd (upd H D (.lst [])) p (.lst []) = H1 at hp1 hD1 e1
    refine ⟨p, _, rfl, SqL.of hp1, for_it (walk_enum (xs := (linesOf z).map V.str)) (fun i σ H3 => ∃ a b acc sts, σ = [some (.str z), some (.ref D), a, b] ∧ Ext H H3 ∧ H3 p = some (.lst ((linesOf z).map V.str)) ∧ H3 D = some (.lst acc) ∧
        All2 (Stp C (fun b => b ≠ D ∧ H b = none) H3) acc sts ∧ All2 (fun l st => pSt l = some st) ((linesOf z).take i) sts ∧ i ≤ 100) ?_ ?_ ?_ ?_⟩
    · exact ⟨_, _, [], [], rfl, e1, hp1, hD1, .nil, .nil, Nat.zero_le _⟩
    · rintro i σ H3 hi ⟨a, b, acc, sts, rfl, e3, hp3, _⟩
      exact SqL.of hp3
    · rintro i v σ H3 H4 hi ⟨a, b, acc, sts, rfl, e3, hp3, hD3, hA, hS, hi100⟩ ⟨T, x, y, rfl, hT, rfl, ex, hy⟩
      cases ex
      obtain ⟨l, rfl, hl⟩ := map_get hy
      have e4 : Ext H (upd H3 T (.tup [.int (i : Nat), .str l])) := e3.upd' hT
      have hp4 := (Ext.upd (o := HO.tup [.int (i : Nat), .str l]) hT) _ _ hp3
      have hD4 := (Ext.upd (o := HO.tup [.int (i : Nat), .str l]) hT) _ _ hD3
      have hA4 := hA.imp fun x y (o : Stp C (fun b => b ≠ D ∧ H b = none) H3 x y) => o.ext (Ext.upd (o := HO.tup [.int (i : Nat), .str l]) hT)
      have hT4 : upd H3 T (.tup [.int (i : Nat), .str l]) T = some (.tup [.int (i : Nat), .str l]) := upd_same
      generalize upd H3 T (.tup [.int (i : Nat), .str l]) = H4 at e4 hp4 hD4 hA4 hT4
      refine ⟨T, _, rfl, SqT.of hT4, rfl, _, _, rfl, _, _, rfl, rfl, ?_⟩
      refine ⟨_, rfl, rfl, _, rfl, iteB (fun h100 => ?_) (fun h100 => ?_)⟩
      · have hi2 : i = 100 := by
          have q := of_decide_eq_true h100
          injection q with q
          omega
        have hpl : pLines 0 (linesOf z) = .inl i := by
          have q := pl_bad (k := 0) hS hl (.inl (by omega))
          rw [q, Nat.zero_add]
        exact ⟨_, rfl, ex_made ((hE i hpl).ext e4)⟩
      · have hi2 : i < 100 := by
          have q := of_decide_eq_false h100
          have q2 : i ≠ 100 := fun q3 => q (by rw [q3]; rfl)
          omega
        have hll : l.length ≤ 100000 := by
          have hm : l ∈ linesOf z := List.mem_of_getElem? hl
          unfold linesOf at hm
          split at hm
          · cases hm
          · exact Nat.le_trans (part_short hm) hz
        have hal : acc.length ≤ 100 := by
          have q := hS.1
          rw [List.length_take] at q
          have q2 := hA.1
          omega
        refine ⟨_, rfl, .inl ⟨rfl, _, SqL.of hD4⟩, _, rfl, _, rfl, .inl ⟨l, rfl, by omega, fun st hst v H5 e5 ho => ⟨D, acc, v, rfl, rfl, e5 _ _ hD4, by omega, ?_⟩, fun hn d H5 e5 hd h5 => ⟨hII, fun a ha => ⟨_, rfl, ex_made ?_⟩⟩⟩⟩
        · have k5 : KpB D H4 (upd H5 D (.lst (acc ++ [v]))) := (KpB.of e5).trans .at
          refine ⟨_, _, acc ++ [v], sts ++ [st], rfl, ext_set (e4.trans e5) hD, ?_, upd_same, ?_, ?_, hi2⟩
          · exact k5 _ _ hpD.symm hp4
          · refine All2.snoc (hA4.imp fun x y o => o.mono (fun b q => q) fun b u q h _ => k5 b u q.1 h) (ho.mono (fun b hb => ⟨fun q => ?_, ext_none e4 hb⟩) fun b u hb h _ => ?_)
            · rw [q, hD4] at hb; cases hb
            · have hbD : b ≠ D := fun q => by rw [q, hD4] at hb; cases hb
              rw [upd_ne hbD]
              exact h
          · have ht : (linesOf z).take (i + 1) = (linesOf z).take i ++ [l] := by rw [List.take_add_one, hl]; rfl
            rw [ht]
            exact hS.snoc hst
        · have hpl : pLines 0 (linesOf z) = .inl i := by
            have q := pl_bad (k := 0) hS hl (.inr ⟨by omega, hn⟩)
            rw [q, Nat.zero_add]
          exact (hE i hpl).ext (e4.trans e5)
    · rintro σ H3 ⟨a, b, acc, sts, rfl, e3, hp3, hD3, hA, hS, hi100⟩
      rw [List.length_map, List.take_length] at hS
      rw [List.length_map] at hi100
      exact ⟨_, rfl, hQ sts (pl_ok hS (by omega)) D H3 acc e3 hD hD3 hA⟩
end
end S78
/-! M1: plain: what parse_step tells of a text, by its words. -/
namespace S78
open PySem PySem.Spec PyProof.Rows TL
theorem sp_eq : (Str.ofString " ") = (⟨#[32]⟩ : Str) := by decide
theorem nl_eq : (Str.ofString "\n") = (⟨#[10]⟩ : Str) := by decide
theorem gt_eq : tl (Str.ofString " > ") = [32, 62, 32] := by decide
theorem sp_tl : tl (Str.ofString " ") = [32] := by decide
theorem nl_tl : tl (Str.ofString "\n") = [10] := by decide
theorem ok256a : (Str.ofString " ").cps.all (· < 256) = true := by decide +kernel
theorem ok256b : (Str.ofString " > ").cps.all (· < 256) = true := by decide +kernel
theorem ok256c : (Str.ofString "\n").cps.all (· < 256) = true := by decide +kernel
theorem part_sp {z p : Str} (h : p ∈ Txt.split z " ") : 32 ∉ tl p := by
  rw [show (" " : Str) = (⟨#[32]⟩ : Str) from sp_eq] at h
  exact StrLaws.split_free z 32 p h
theorem part_nl {z p : Str} (h : p ∈ Txt.split z "\n") : 10 ∉ tl p := by
  rw [show ("\n" : Str) = (⟨#[10]⟩ : Str) from nl_eq] at h
  exact StrLaws.split_free z 10 p h
theorem split_ne (z y : Str) : Txt.split z y ≠ [] := fun e => by
  have := split_pos z y
  rw [e] at this
  simp at this
theorem join_split' (z y : Str) : Txt.join y (Txt.split z y) = z := by rw [join_eq]; exact StrLaws.join_split z y
theorem split_sp {ws : List Str} (hne : ws ≠ []) (h : ∀ p ∈ ws, 32 ∉ tl p) : Txt.split (Txt.join " " ws) " " = ws := split_join (s := 32) (S := []) sp_tl ok256a hne h
theorem split_nl {ws : List Str} (hne : ws ≠ []) (h : ∀ p ∈ ws, 10 ∉ tl p) : Txt.split (Txt.join "\n" ws) "\n" = ws := split_join (s := 10) (S := []) nl_tl ok256c hne h
/-- a sign of a joined text -/
theorem mem_join {y : Str} {c : Nat} : ∀ {ps : List Str}, c ∈ tl (Str.join y ps) → c ∈ tl y ∨ ∃ p ∈ ps, c ∈ tl p
  | [], h => by
    have h2 : c ∈ tl Str.empty := h
    simp [Str.empty, tl] at h2
  | [p], h => .inr ⟨p, .head _, h⟩
  | p :: q :: r, h => by
    have e : Str.join y (p :: q :: r) = p ++ y ++ Str.join y (q :: r) := rfl
    rw [e, tl_append, tl_append, List.mem_append, List.mem_append] at h
    rcases h with (h | h) | h
    · exact .inr ⟨p, .head _, h⟩
    · exact .inl h
    · rcases mem_join (ps := q :: r) h with h | ⟨u, hu, h⟩
      · exact .inl h
      · exact .inr ⟨u, .tail _ hu, h⟩
theorem name_sign {z : Str} (h : nameB z = true) {c : Nat} (hc : c ∈ tl z) : 97 ≤ c ∧ c ≤ 122 := by
  have h1 := (nameB_get h).2.2 c hc
  have h2 : c ∈ ("abcdefghijklmnopqrstuvwxyz" : Str).cps.toList := of_decide_eq_true h1
  have h3 : ∀ d ∈ ("abcdefghijklmnopqrstuvwxyz" : Str).cps.toList, 97 ≤ d ∧ d ≤ 122 := by decide +kernel
  exact h3 c h2
theorem cols_sign {ws : List Str} (h : colsB ws = true) {c : Nat} (hc : c ∈ tl (Txt.join " " ws)) : c = 32 ∨ (97 ≤ c ∧ c ≤ 122) := by
  rw [join_eq] at hc
  rcases mem_join hc with hc | ⟨p, hp, hc⟩
  · rw [show tl (" " : Str) = [32] from sp_tl, List.mem_singleton] at hc
    exact .inl hc
  · exact .inr (name_sign ((colsB_get h).2.2.1 p hp) hc)
theorem cols_free {ws : List Str} (h : colsB ws = true) : ∀ p ∈ ws, 32 ∉ tl p := fun p hp hc => by
  have := name_sign ((colsB_get h).2.2.1 p hp) hc
  omega
theorem cols_ne {ws : List Str} (h : colsB ws = true) : ws ≠ [] := fun e => by
  have := (colsB_get h).1
  rw [e] at this
  simp at this
theorem pOrd_eq (p : Str) : pOrd p = if colsB (Txt.split p " ") = true then some (Txt.split p " ") else none := by
  unfold pOrd
  by_cases h : colsB (Txt.split p " ") = true
  · rw [if_pos h, if_pos]
    refine ⟨decide_eq_false fun hc => ?_, fun hm => ?_, h⟩
    · have hc2 : 10 ∈ tl (Txt.join " " (Txt.split p " ")) := by rw [join_split']; exact hc
      have := cols_sign h hc2
      omega
    · have := (nameB_get ((colsB_get h).2.2.1 _ hm)).1
      exact absurd this (by decide)
  · rw [if_neg h, if_neg fun q => h q.2.2]
theorem pOrd_join {ws : List Str} (h : colsB ws = true) : pOrd (Txt.join " " ws) = some ws := by
  rw [pOrd_eq, split_sp (cols_ne h) (cols_free h), if_pos h]
theorem pOrd_some {p : Str} {ws : List Str} (h : pOrd p = some ws) : Txt.split p " " = ws ∧ colsB ws = true := by
  rw [pOrd_eq] at h
  by_cases q : colsB (Txt.split p " ") = true
  · rw [if_pos q] at h
    have e := Option.some.inj h
    rw [← e]
    exact ⟨rfl, q⟩
  · rw [if_neg q] at h
    cases h
/-! ### cutting at " > " -/
theorem pre_free {p l : List Nat} (h : 62 ∉ p) (i : Nat) (hi : i < p.length) : pre [32, 62, 32] ((p ++ 32 :: l).drop i) = false := by
  cases hp : pre [32, 62, 32] ((p ++ 32 :: l).drop i) with
  | false => rfl
  | true =>
    have e : ((p ++ 32 :: l).drop i).take 3 = [32, 62, 32] := eq_of_beq hp
    have e1 : (((p ++ 32 :: l).drop i).take 3)[1]? = some 62 := by rw [e]; rfl
    rw [List.getElem?_take_of_lt (by omega), List.getElem?_drop] at e1
    rcases Nat.lt_or_ge (i + 1) p.length with q | q
    · rw [List.getElem?_append_left q] at e1
      exact absurd (List.mem_of_getElem? e1) h
    · have q2 : i + 1 = p.length := by omega
      rw [q2, List.getElem?_append_right (Nat.le_refl _), Nat.sub_self] at e1
      cases e1
theorem pre_free1 {p : List Nat} (h : 62 ∉ p) (i : Nat) : pre [32, 62, 32] (p.drop i) = false := by
  cases hp : pre [32, 62, 32] (p.drop i) with
  | false => rfl
  | true =>
    have e : (p.drop i).take 3 = [32, 62, 32] := eq_of_beq hp
    have h1 : 62 ∈ (p.drop i).take 3 := by rw [e]; simp
    exact absurd (List.mem_of_mem_drop (List.mem_of_mem_take h1)) h
theorem split_gt1 {r : Str} (h : 62 ∉ tl r) : Txt.split r " > " = [r] := by
  refine map_tl_inj ?_
  rw [split_spl _ _ (by rw [show tl (" > " : Str) = [32, 62, 32] from gt_eq]; simp) (kind_ok ok256b), show tl (" > " : Str) = [32, 62, 32] from gt_eq]
  rw [spl_last fun i hi => pre_free1 h i, List.nil_append]
  rfl
theorem split_gt2 {p q : Str} (hp : 62 ∉ tl p) (hq : 62 ∉ tl q) : Txt.split (p ++ " > " ++ q) " > " = [p, q] := by
  refine map_tl_inj ?_
  rw [split_spl _ _ (by rw [show tl (" > " : Str) = [32, 62, 32] from gt_eq]; simp) (kind_ok ok256b), tl_append, tl_append, show tl (" > " : Str) = [32, 62, 32] from gt_eq, List.append_assoc]
  rw [spl_part (by simp) fun i hi => pre_free (l := [62, 32] ++ tl q) hp i hi, List.nil_append, spl_last fun i hi => pre_free1 hq i, List.nil_append]
  rfl
theorem cols_gt {ws : List Str} (h : colsB ws = true) : 62 ∉ tl (Txt.join " " ws) := fun hc => by
  have := cols_sign h hc
  omega
/-! ### the head word -/
theorem head_word {z w : Str} {W : List Str} (h : Txt.split z " " = w :: W) : (W = [] ∧ Txt.partition z " " = (w, Str.empty, Str.empty)) ∨ (W ≠ [] ∧ Txt.partition z " " = (w, (" " : Str), Txt.join " " W) ∧ Txt.split (Txt.join " " W) " " = W) := by
  have hw : 32 ∉ tl w := part_sp (z := z) (by rw [h]; exact .head _)
  have hz := join_split' z " "
  rw [h, join_eq] at hz
  cases W with
  | nil =>
    have e : z = w := hz.symm
    rw [e]
    exact .inl ⟨rfl, partition_none (s := 32) (S := []) sp_tl hw⟩
  | cons a W =>
    have e : z = w ++ " " ++ Str.join " " (a :: W) := hz.symm
    refine .inr ⟨by simp, ?_, split_sp (by simp) fun p hp => part_sp (z := z) (by rw [h]; exact .tail _ hp)⟩
    rw [e, join_eq]
    exact partition_app (s := 32) (S := []) sp_tl hw
/-- what a text tells, by its words -/
def RdOk (z : Str) (st : Str × List (List Str)) : Prop := (∃ (w : Str) (W : List Str), (w = "build" ∨ w = "drop") ∧ Txt.split z " " = w :: W ∧ colsB W = true ∧ st = (w, [W])) ∨ ∃ W1 W2 : List Str, Txt.split z " " = ("relay" : Str) :: (W1 ++ (">" : Str) :: W2) ∧ colsB W1 = true ∧ colsB W2 = true ∧ st = (("relay" : Str), [W1, W2])
theorem join_mid {W1 W2 : List Str} (h1 : W1 ≠ []) (h2 : W2 ≠ []) : Txt.join " " (W1 ++ (">" : Str) :: W2) = Txt.join " " W1 ++ " > " ++ Txt.join " " W2 := by
  rw [join_eq, join_eq, join_eq]
  refine ext_tl ?_
  have eg : tl (" > " : Str) = [32, 62, 32] := gt_eq
  have es : tl (" " : Str) = [32] := sp_tl
  rw [tl_append, tl_append, eg]
  induction W1 with
  | nil => exact absurd rfl h1
  | cons a W1 ih =>
    cases W1 with
    | nil =>
      cases W2 with
      | nil => exact absurd rfl h2
      | cons b W2 =>
        show tl (a ++ (" " : Str) ++ ((">" : Str) ++ (" " : Str) ++ Str.join " " (b :: W2))) = tl a ++ [32, 62, 32] ++ tl (Str.join " " (b :: W2))
        rw [tl_append, tl_append, tl_append, tl_append, es, show tl (">" : Str) = [62] from by decide]
        simp
    | cons c W1 =>
      have ih2 := ih (by simp)
      show tl (a ++ " " ++ Str.join " " ((c :: W1) ++ (">" : Str) :: W2)) = tl (a ++ " " ++ Str.join " " (c :: W1)) ++ [32, 62, 32] ++ tl (Str.join " " W2)
      rw [tl_append, tl_append, ih2, tl_append, tl_append]
      simp
theorem pSt_iff {z : Str} {st : Str × List (List Str)} : pSt z = some st ↔ RdOk z st := by
  obtain ⟨w, W, hs⟩ : ∃ w W, Txt.split z " " = w :: W := by
    cases e : Txt.split z " " with
    | nil => exact absurd e (split_ne z " ")
    | cons w W => exact ⟨w, W, rfl⟩
  have hps : pSt z = if ((Txt.partition z " ").1 = "build" ∨ (Txt.partition z " ").1 = "drop" ∨ (Txt.partition z " ").1 = "relay") ∧ (Txt.split (Txt.partition z " ").2.2 " > ").length = (if (Txt.partition z " ").1 = "relay" then 2 else 1) then (pOrds (Txt.split (Txt.partition z " ").2.2 " > ")).map ((Txt.partition z " ").1, ·) else none := rfl
  have ne1 : ("build" : Str) ≠ "relay" := by decide
  have ne2 : ("drop" : Str) ≠ "relay" := by decide
  rcases head_word hs with ⟨rfl, hp⟩ | ⟨hW, hp, hsW⟩
  · -- no blank
    have hpe : Txt.split Str.empty " > " = [Str.empty] := split_gt1 (by simp [Str.empty, tl])
    have hoe : pOrds [Str.empty] = none := by
      have h1 : pOrd Str.empty = none := by
        rw [pOrd_eq, if_neg]
        intro h
        have h2 := cols_ne h
        have h3 := (colsB_get h).2.2.1
        have h4 : 32 ∉ tl Str.empty := by simp [Str.empty, tl]
        have h5 : Txt.split (Txt.join " " [Str.empty]) " " = [Str.empty] := split_sp (by simp) (by simpa using h4)
        have h6 : Txt.join " " [Str.empty] = Str.empty := by rw [join_eq]; rfl
        rw [h6] at h5
        have h7 := h3 Str.empty (by rw [h5]; exact .head _)
        exact absurd h7 (by decide)
      unfold pOrds
      rw [h1]
    rw [hps, hp, hpe]
    show (if (w = "build" ∨ w = "drop" ∨ w = "relay") ∧ ([Str.empty] : List Str).length = (if w = "relay" then 2 else 1) then (pOrds [Str.empty]).map (w, ·) else none) = some st ↔ _
    rw [hoe]
    constructor
    · intro h
      by_cases q : (w = "build" ∨ w = "drop" ∨ w = "relay") ∧ ([Str.empty] : List Str).length = (if w = "relay" then 2 else 1)
      · rw [if_pos q] at h; simp at h
      · rw [if_neg q] at h; cases h
    · rintro (⟨w', W', _, h1, h2, _⟩ | ⟨W1, W2, h1, _⟩)
      · rw [hs] at h1
        injection h1 with h3 h4
        rw [← h4] at h2
        exact absurd rfl (cols_ne h2)
      · rw [hs] at h1
        injection h1 with h3 h4
        simp at h4
  · rw [hps, hp]
    show (if (w = "build" ∨ w = "drop" ∨ w = "relay") ∧ (Txt.split (Txt.join " " W) " > ").length = (if w = "relay" then 2 else 1) then (pOrds (Txt.split (Txt.join " " W) " > ")).map (w, ·) else none) = some st ↔ _
    have hjs := join_split' (Txt.join " " W) " > "
    constructor
    · intro h
      by_cases hc : (w = "build" ∨ w = "drop" ∨ w = "relay") ∧ (Txt.split (Txt.join " " W) " > ").length = (if w = "relay" then 2 else 1)
      · rw [if_pos hc] at h
        by_cases hr : w = "relay"
        · have hl := hc.2
          rw [if_pos hr] at hl
          obtain ⟨p, q, epq⟩ : ∃ p q, Txt.split (Txt.join " " W) " > " = [p, q] := by
            match Txt.split (Txt.join " " W) " > ", hl with
            | [p, q], _ => exact ⟨p, q, rfl⟩
          rw [epq] at h hjs
          unfold pOrds at h
          cases h1 : pOrd p with
          | none => rw [h1] at h; cases h
          | some P =>
            unfold pOrds at h
            cases h2 : pOrd q with
            | none => rw [h1, h2] at h; cases h
            | some Q =>
              rw [h1, h2] at h
              have e : st = (w, [P, Q]) := (Option.some.inj h).symm
              obtain ⟨s1, c1⟩ := pOrd_some h1
              obtain ⟨s2, c2⟩ := pOrd_some h2
              have ep : p = Txt.join " " P := by rw [← s1, join_split']
              have eq : q = Txt.join " " Q := by rw [← s2, join_split']
              have er : Txt.join " " W = Txt.join " " (P ++ (">" : Str) :: Q) := by
                rw [join_mid (cols_ne c1) (cols_ne c2), ← ep, ← eq, ← hjs, join_eq]
                rfl
              have eW : W = P ++ (">" : Str) :: Q := by
                rw [← hsW, er]
                refine split_sp (by simp) fun x hx => ?_
                rcases List.mem_append.mp hx with hx | hx
                · exact cols_free c1 x hx
                · rcases List.mem_cons.mp hx with rfl | hx
                  · decide
                  · exact cols_free c2 x hx
              exact .inr ⟨P, Q, by rw [hs, hr, eW], c1, c2, by rw [e, hr]⟩
        · have hl := hc.2
          rw [if_neg hr] at hl
          obtain ⟨p, ep⟩ : ∃ p, Txt.split (Txt.join " " W) " > " = [p] := List.length_eq_one_iff.mp hl
          rw [ep] at h hjs
          have epw : p = Txt.join " " W := by rw [← hjs, join_eq]; rfl
          unfold pOrds at h
          cases h1 : pOrd p with
          | none => rw [h1] at h; cases h
          | some P =>
            rw [h1] at h
            have e : st = (w, [P]) := (Option.some.inj h).symm
            obtain ⟨s1, c1⟩ := pOrd_some h1
            rw [epw, hsW] at s1
            refine .inl ⟨w, W, ?_, hs, by rw [s1]; exact c1, by rw [e, s1]⟩
            rcases hc.1 with h | h | h
            · exact .inl h
            · exact .inr h
            · exact absurd h hr
      · rw [if_neg hc] at h
        cases h
    · rintro (⟨w', W', hw, h1, h2, rfl⟩ | ⟨W1, W2, h1, h2, h3, rfl⟩)
      · rw [hs] at h1
        injection h1 with h3 h4
        subst h3 h4
        have hr : w ≠ "relay" := by rcases hw with h | h <;> rw [h] <;> assumption
        have es := split_gt1 (cols_gt h2)
        rw [es, if_pos ⟨by rcases hw with h | h; exact .inl h; exact .inr (.inl h), by rw [if_neg hr]; rfl⟩]
        unfold pOrds
        rw [pOrd_join h2]
        rfl
      · rw [hs] at h1
        injection h1 with h4 h5
        subst h4 h5
        have ej := join_mid (cols_ne h2) (cols_ne h3)
        have es := split_gt2 (cols_gt h2) (cols_gt h3)
        rw [ej, es, if_pos ⟨.inr (.inr rfl), by rw [if_pos rfl]; rfl⟩]
        unfold pOrds
        rw [pOrd_join h2]
        unfold pOrds
        rw [pOrd_join h3]
        rfl
end S78
/-! M2: plain: steps' texts read back. -/
namespace S78
open PySem PySem.Spec PyProof.Rows TL
theorem join_cons {y w : Str} {W : List Str} (h : W ≠ []) : Txt.join y (w :: W) = w ++ y ++ Txt.join y W := by
  cases W with
  | nil => exact absurd rfl h
  | cons a W => rw [join_eq, join_eq]; rfl
theorem stText_one {w : Str} {W : List Str} (h : W ≠ []) : stText (w, [W]) = Txt.join " " (w :: W) := by
  rw [join_cons h]
  unfold stText
  show w ++ " " ++ Txt.join " > " [Txt.join " " W] = _
  rw [join_eq " > "]
  rfl
theorem app_assoc' (a b c : Str) : a ++ b ++ c = a ++ (b ++ c) := ext_tl (by rw [tl_append, tl_append, tl_append, tl_append, List.append_assoc])
theorem stText_two {w : Str} {W1 W2 : List Str} (h1 : W1 ≠ []) (h2 : W2 ≠ []) : stText (w, [W1, W2]) = Txt.join " " (w :: (W1 ++ (">" : Str) :: W2)) := by
  rw [join_cons (by simp), join_mid h1 h2]
  unfold stText
  show w ++ " " ++ Txt.join " > " [Txt.join " " W1, Txt.join " " W2] = _
  have e2 : Txt.join " > " [Txt.join " " W1, Txt.join " " W2] = Txt.join " " W1 ++ " > " ++ Txt.join " " W2 := by
    rw [join_eq " > "]
    rfl
  rw [e2]
theorem words_one {w : Str} {W : List Str} (hw : 32 ∉ tl w) (h : colsB W = true) : Txt.split (stText (w, [W])) " " = w :: W := by
  rw [stText_one (cols_ne h)]
  refine split_sp (by simp) fun p hp => ?_
  rcases List.mem_cons.mp hp with rfl | hp
  · exact hw
  · exact cols_free h p hp
theorem words_two {w : Str} {W1 W2 : List Str} (hw : 32 ∉ tl w) (h1 : colsB W1 = true) (h2 : colsB W2 = true) : Txt.split (stText (w, [W1, W2])) " " = w :: (W1 ++ (">" : Str) :: W2) := by
  rw [stText_two (cols_ne h1) (cols_ne h2)]
  refine split_sp (by simp) fun p hp => ?_
  rcases List.mem_cons.mp hp with rfl | hp
  · exact hw
  · rcases List.mem_append.mp hp with hp | hp
    · exact cols_free h1 p hp
    · rcases List.mem_cons.mp hp with rfl | hp
      · decide
      · exact cols_free h2 p hp
theorem pSt_text {st : Str × List (List Str)} (ok : okSt st) : pSt (stText st) = some st := by
  obtain ⟨w, oss⟩ := st
  rcases ok with ⟨h1, ws, h2, h3⟩ | ⟨h1, ws, os, h2, h3, h4⟩
  · simp only at h1 h2
    subst h2
    refine pSt_iff.mpr (.inl ⟨w, ws, h1, words_one ?_ h3, h3, rfl⟩)
    rcases h1 with h1 | h1 <;> rw [h1] <;> decide
  · simp only at h1 h2
    subst h1 h2
    exact pSt_iff.mpr (.inr ⟨ws, os, words_two (by decide) h3 h4, h3, h4, rfl⟩)
theorem text_sign {st : Str × List (List Str)} (ok : okSt st) {c : Nat} (hc : c ∈ tl (stText st)) : c ≠ 10 := by
  obtain ⟨w, oss⟩ := st
  have wn : ∀ x : Str, (x = "build" ∨ x = "drop" ∨ x = "relay") → c ∈ tl x → c ≠ 10 := by
    intro x hx hcx
    rcases hx with rfl | rfl | rfl
    · have h : ∀ d ∈ tl ("build" : Str), d ≠ 10 := by decide
      exact h c hcx
    · have h : ∀ d ∈ tl ("drop" : Str), d ≠ 10 := by decide
      exact h c hcx
    · have h : ∀ d ∈ tl ("relay" : Str), d ≠ 10 := by decide
      exact h c hcx
  have nm : ∀ {W : List Str}, colsB W = true → ∀ p ∈ W, c ∈ tl p → c ≠ 10 := fun hW p hp hcp => by
    have := name_sign ((colsB_get hW).2.2.1 p hp) hcp
    omega
  have sp : c ∈ tl (" " : Str) → c ≠ 10 := fun h => by
    rw [show tl (" " : Str) = [32] from sp_tl, List.mem_singleton] at h
    omega
  rcases ok with ⟨h1, ws, h2, h3⟩ | ⟨h1, ws, os, h2, h3, h4⟩
  · simp only at h1 h2
    subst h2
    rw [stText_one (cols_ne h3), join_eq] at hc
    rcases mem_join hc with hq | ⟨p, hp, hq⟩
    · exact sp hq
    · rcases List.mem_cons.mp hp with rfl | hp
      · exact wn _ (h1.elim .inl fun h => .inr (.inl h)) hq
      · exact nm h3 p hp hq
  · simp only at h1 h2
    subst h1 h2
    rw [stText_two (cols_ne h3) (cols_ne h4), join_eq] at hc
    rcases mem_join hc with hq | ⟨p, hp, hq⟩
    · exact sp hq
    · rcases List.mem_cons.mp hp with rfl | hp
      · exact wn _ (.inr (.inr rfl)) hq
      · rcases List.mem_append.mp hp with hp | hp
        · exact nm h3 p hp hq
        · rcases List.mem_cons.mp hp with rfl | hp
          · have h : ∀ d ∈ tl (">" : Str), d ≠ 10 := by decide
            exact h c hq
          · exact nm h4 p hp hq
theorem text_ne {st : Str × List (List Str)} : stText st ≠ Str.empty := fun e => by
  have h : tl (stText st) = [] := by rw [e]; rfl
  unfold stText at h
  rw [tl_append, tl_append, show tl (" " : Str) = [32] from sp_tl] at h
  simp at h
/-- the lines of joined steps' texts -/
theorem lines_text {sts : List (Str × List (List Str))} (ok : ∀ st ∈ sts, okSt st) : linesOf (Txt.join "\n" (sts.map stText)) = sts.map stText := by
  cases sts with
  | nil =>
    unfold linesOf
    rw [List.map_nil, join_eq]
    exact if_pos rfl
  | cons st sts =>
    unfold linesOf
    rw [if_neg]
    · refine split_nl (by simp) fun p hp => ?_
      obtain ⟨s, hs, rfl⟩ := List.mem_map.mp hp
      exact fun hc => text_sign (ok s hs) hc rfl
    · intro e
      have h : tl (Txt.join "\n" ((st :: sts).map stText)) = [] := by rw [e]; rfl
      have h2 : tl (stText st) ≠ [] := fun q => text_ne (st := st) (ext_tl (by rw [q]; rfl))
      cases sts with
      | nil =>
        rw [join_eq] at h
        exact h2 h
      | cons a sts =>
        rw [List.map_cons, join_cons (by simp), tl_append, tl_append] at h
        simp at h
        exact h2 (by show (stText st).cps.toList = []; rw [h.1])
theorem pl_text {sts : List (Str × List (List Str))} (ok : ∀ st ∈ sts, okSt st) (hl : sts.length ≤ 100) : pLines 0 (linesOf (Txt.join "\n" (sts.map stText))) = .inr sts := by
  rw [lines_text ok]
  refine pl_ok ⟨by rw [List.length_map], fun i l st h1 h2 => ?_⟩ (by rw [List.length_map]; omega)
  rw [List.getElem?_map, h2] at h1
  have e : stText st = l := Option.some.inj h1
  rw [← e]
  exact pSt_text (ok st (List.mem_of_getElem? h2))
/-- a hundred and one of them -/
theorem pl_many {sts : List (Str × List (List Str))} (ok : ∀ st ∈ sts, okSt st) (hl : 100 < sts.length) : pLines 0 (linesOf (Txt.join "\n" (sts.map stText))) = .inl 100 := by
  rw [lines_text ok]
  have hg : (sts.map stText)[100]? = some ((sts.map stText)[100]'(by rw [List.length_map]; exact hl)) := List.getElem?_eq_getElem _
  have q := pl_bad (k := 0) (i := 100) (ls := sts.map stText) (sts := sts.take 100) ⟨by rw [← List.map_take, List.length_map], fun i l st h1 h2 => ?_⟩ hg (.inl rfl)
  · rw [q]
  · rw [← List.map_take, List.getElem?_map, h2] at h1
    have e : stText st = l := Option.some.inj h1
    rw [← e]
    exact pSt_text (ok st (List.mem_of_mem_take (List.mem_of_getElem? h2)))
end S78
/-! G1: the law's cells, boxes, takes. -/
namespace S78
open PySem PySem.Spec PyProof.Rows L2
abbrev sCell : Stmt := top 35
abbrev sBox : Stmt := top 36
abbrev sTake : Stmt := top 37
abbrev sMix : Stmt := top 38
abbrev sLCols : Stmt := top 39
abbrev sLStep : Stmt := top 40
theorem scCell : FnScope ["script", "k"] ["script", "k"] (defScope sCell) := ⟨rfl, rfl, rfl, by decide +kernel, rfl, by decide +kernel, by decide +kernel⟩
theorem scBox : FnScope ["cell"] ["cell"] (defScope sBox) := ⟨rfl, rfl, rfl, by decide +kernel, rfl, by decide +kernel, by decide +kernel⟩
theorem scTake : FnScope ["box", "many", "digit", "mixed"] ["box", "many"] (defScope sTake) := ⟨rfl, rfl, rfl, by decide +kernel, rfl, by decide +kernel, by decide +kernel⟩
theorem scMix : FnScope ["box", "things", "left", "found"] ["box", "things"] (defScope sMix) := ⟨rfl, rfl, rfl, by decide +kernel, rfl, by decide +kernel, by decide +kernel⟩
/-- the box with n takes left -/
def BoxOk (H : Hp) (b : Addr) (n : Nat) : Prop := ∃ x y z : Int, H b = some (.lst [.int x, .int y, .int z]) ∧ 0 ≤ x ∧ 0 ≤ y ∧ y < 2147483629 ∧ 0 ≤ z ∧ z + n ≤ 100000
theorem BoxOk.mono {H : Hp} {b : Addr} {m n : Nat} (h : BoxOk H b m) (hn : n ≤ m) : BoxOk H b n := by
  obtain ⟨x, y, z, h1, h2, h3, h4, h5, h6⟩ := h
  exact ⟨x, y, z, h1, h2, h3, h4, h5, by omega⟩
theorem BoxOk.ext {H H' : Hp} {b : Addr} {n : Nat} (h : BoxOk H b n) (e : Ext H H') : BoxOk H' b n := by
  obtain ⟨x, y, z, h1, h2⟩ := h
  exact ⟨x, y, z, e _ _ h1, h2⟩
theorem BoxOk.dom {H : Hp} {b : Addr} {n : Nat} (h : BoxOk H b n) {p : Addr} (hp : H p = none) : p ≠ b := by
  obtain ⟨x, y, z, h1, _⟩ := h
  exact fun q => by rw [q, h1] at hp; cases hp
section
variable {P : Program} {w : World} {K : PySem.W.Frag} {mg : Str → Option Value} {base : Heap} {f : Addr} {fd : FuncData} {C : Addr}
def spCellK (K : PySem.W.Frag) : Sp := fun vs H Q _ => ∃ (a : Addr) (ns : List Int) (k : Nat), vs = [.ref a, .int (k : Nat)] ∧ SqL K H a (ns.map V.int) ∧ ∀ i : Int, Q (.int i) H
theorem ok_cell (F : FnP K "_law_cell" sCell f fd) (T : Fre mg) : FnOk P w K mg base CX0 1 f fd ["script", "k"] (spCellK K) := by
  refine F.ok scCell (fun vs H Q E h => by obtain ⟨a, ns, k, rfl, _⟩ := h; rfl) (fun cdv A outer s H vs Q E hr h => ?_)
  obtain ⟨a, ns, k, rfl, hS, hQ⟩ := h
  refine ⟨_, PSs.nox (pss_cons (ps_if (pt_cmpR op_lt (pv 1) (pe_callB call_len_seq rfl T.len boot_len (pa_cons (pv 0) pa_nil)) rfl) (pss_one (ps_ret (pe_ix ix_list (pv 0) (pv 1) (fun _ _ => rfl)))) pss_nil)
    (pss_one (ps_ret (pe_op op_add (pe_op op_mul pe_int (pv 1)) pe_int)))), ?_⟩
  refine ⟨_, rfl, _, rfl, a, _, rfl, .inl hS, _, _, rfl, rfl, _, rfl, iteB (fun h => ?_) (fun h => ?_)⟩
  · have hk : k < ns.length := by
      have q := of_decide_eq_true h
      rw [List.length_map] at q
      omega
    refine ⟨_, rfl, _, rfl, a, _, (k : Nat), .int ns[k], rfl, rfl, hS, ?_, hQ _⟩
    unfold atI ixN
    rw [if_pos (Int.natCast_nonneg k), if_pos (by rw [List.length_map]; exact Int.ofNat_lt.mpr hk)]
    show (ns.map V.int)[((k : Nat) : Int).toNat]? = _
    rw [Int.toNat_natCast, List.getElem?_map, List.getElem?_eq_getElem hk]
    rfl
  · exact ⟨_, rfl, _, _, rfl, rfl, .inl ⟨by decide, by decide⟩, _, _, rfl, rfl, hQ _⟩
def spBox : Sp := fun vs H Q _ => ∃ c : Int, vs = [.int c] ∧ ∀ b H', H b = none → Ext H H' → BoxOk H' b 100000 → Q (.ref b) H'
theorem ok_box (F : FnP K "_law_box" sBox f fd) (T : Fre mg) : FnOk P w K mg base CX0 1 f fd ["cell"] spBox := by
  refine F.ok scBox (fun vs H Q E h => by obtain ⟨c, rfl, _⟩ := h; rfl) (fun cdv A outer s H vs Q E hr h => ?_)
  obtain ⟨c, rfl, hQ⟩ := h
  refine ⟨_, PSs.nox (pss_one (ps_ret (pe_lst (pa_cons (pe_callB (call_max2 rfl) rfl T.max boot_max (pa_cons pe_int (pa_cons (pe_op op_sub (pv 0) (pe_op op_pow pe_int pe_int)) pa_nil))) (pa_cons (pe_op op_mod (pv 0) pe_int) (pa_cons pe_int pa_nil)))))), ?_⟩
  refine ⟨_, rfl, 10, 18, rfl, rfl, ⟨by decide, by decide, by decide⟩, _, _, rfl, rfl, _, _, rfl, _, rfl, _, 2147483629, rfl, rfl, by show (0 : Int) < 2147483629; decide, by show 3 ≤ sizeLine; decide, fun p hp => ?_⟩
  refine hQ p _ hp (Ext.upd hp) ⟨_, _, 0, upd_same, ?_, Int.emod_nonneg _ (by decide), Int.emod_lt_of_pos _ (by decide), Int.le_refl _, by omega⟩
  split <;> omega
def spTake : Sp := fun vs H Q _ => ∃ (b : Addr) (m : Int) (n : Nat), vs = [.ref b, .int m] ∧ 1 ≤ m ∧ m ≤ 1000000 ∧ BoxOk H b (n + 1) ∧ ∀ d H', 0 ≤ d → d < m → KpB b H H' → BoxOk H' b n → Q (.int d) H'
theorem ok_take (F : FnP K "_law_take" sTake f fd) : FnOk P w K mg base CX0 1 f fd ["box", "many"] spTake := by
  refine F.ok scTake (fun vs H Q E h => by obtain ⟨b, m, n, rfl, _⟩ := h; rfl) (fun cdv A outer s H vs Q E hr h => ?_)
  obtain ⟨b, m, n, rfl, hm1, hm2, ⟨x, y, z, hb, hx, hy, hy2, hz, hn⟩, hQ⟩ := h
  refine ⟨_, PSs.nox (pss_cons (ps_if (pt_cmpR op_gt (pe_ix ix_list (pv 0) pe_int (fun _ _ => rfl)) pe_int rfl)
      (pss_cons (ps_set (i := 2) scTake.nd rfl (Or.inl rfl) (pe_op op_mod (pe_ix ix_list (pv 0) pe_int (fun _ _ => rfl)) (pv 1)))
      (pss_cons (ps_asg (pe_op op_fdiv (pe_ix ix_list (pv 0) pe_int (fun _ _ => rfl)) (pv 1)) (pg_sub (pv 0) pe_int set_list))
      (pss_one (ps_ret (pv 2))))) pss_nil)
    (pss_cons (ps_asg (pe_op op_add (pe_ix ix_list (pv 0) pe_int (fun _ _ => rfl)) pe_int) (pg_sub (pv 0) pe_int set_list))
    (pss_cons (ps_set (i := 3) scTake.nd rfl (Or.inl rfl) (pe_op op_mod (pe_op op_pow (pe_op op_add (pe_op op_add (pe_ix ix_list (pv 0) pe_int (fun _ _ => rfl)) (pe_op op_mul pe_int (pe_ix ix_list (pv 0) pe_int (fun _ _ => rfl)))) pe_int) pe_int) pe_int))
    (pss_cons (ps_set (i := 3) scTake.nd rfl (Or.inl rfl) (pe_op op_mod (pe_op op_pow (pe_op op_add (pv 3) (pe_op op_mul pe_int (pe_ix ix_list (pv 0) pe_int (fun _ _ => rfl)))) pe_int) pe_int))
    (pss_one (ps_ret (pe_op op_mod (pe_op op_fdiv (pv 3) pe_int) (pv 1)))))))), ?_⟩
  have hm : 0 < m := by omega
  have hmb : m < 1073741824 := by omega
  have S0 : SqL K H b [.int x, .int y, .int z] := SqL.of hb
  refine ⟨_, rfl, b, _, 0, .int x, rfl, rfl, S0, rfl, _, _, rfl, rfl, _, rfl, iteB (fun h => ?_) (fun h => ?_)⟩
  · have hx0 : 0 < x := of_decide_eq_true h
    refine ⟨_, rfl, b, _, 0, .int x, rfl, rfl, S0, rfl, _, rfl, _, _, rfl, rfl, hm, ?_⟩
    refine ⟨_, rfl, b, _, 0, .int x, rfl, rfl, S0, rfl, _, rfl, _, _, rfl, rfl, ⟨hm, hmb⟩, _, rfl, b, _, 0, 0, rfl, rfl, hb, rfl, ?_⟩
    refine ⟨_, rfl, hQ _ _ (Int.emod_nonneg _ (by omega)) (Int.emod_lt_of_pos _ hm) .at ⟨x / m, y, z, upd_same, Int.ediv_nonneg hx (by omega), hy, hy2, hz, by omega⟩⟩
  · refine ⟨_, rfl, b, _, 2, .int z, rfl, rfl, S0, rfl, _, _, rfl, rfl, _, rfl, b, _, 2, 2, rfl, rfl, hb, rfl, ?_⟩
    have h1 : upd H b (.lst ([V.int x, V.int y, V.int z].set 2 (V.int (z + 1)))) b = some (.lst [.int x, .int y, .int (z + 1)]) := upd_same
    have k1 : KpB b H (upd H b (.lst ([V.int x, V.int y, V.int z].set 2 (V.int (z + 1))))) := .at
    generalize upd H b (.lst ([V.int x, V.int y, V.int z].set 2 (V.int (z + 1)))) = H1 at h1 k1
    have S1 : SqL K H1 b [.int x, .int y, .int (z + 1)] := SqL.of h1
    refine ⟨_, rfl, b, _, 1, .int y, rfl, rfl, S1, rfl, _, rfl, b, _, 2, .int (z + 1), rfl, rfl, S1, rfl, _, _, rfl, rfl, .inl ⟨by decide, by decide⟩, _, _, rfl, rfl, _, _, rfl, rfl, _, 5, rfl, rfl, ⟨by decide, by decide, ?_⟩, _, 2147483647, rfl, rfl, by show (0 : Int) < 2147483647; decide, ?_⟩
    · have e : (2 : Nat) ^ 64 = 18446744073709551616 := by decide
      rw [e]
      omega
    have hd1 : 0 ≤ (y + 15487811 * (z + 1) + 487) ^ (5 : Int).toNat % 2147483647 := Int.emod_nonneg _ (by decide)
    have hd2 : (y + 15487811 * (z + 1) + 487) ^ (5 : Int).toNat % 2147483647 < 2147483647 := Int.emod_lt_of_pos _ (by decide)
    generalize (y + 15487811 * (z + 1) + 487) ^ (5 : Int).toNat % 2147483647 = u at hd1 hd2
    refine ⟨_, rfl, _, rfl, b, _, 2, .int (z + 1), rfl, rfl, S1, rfl, _, _, rfl, rfl, .inl ⟨by decide, by decide⟩, _, _, rfl, rfl, _, 3, rfl, rfl, ⟨by decide, by decide, ?_⟩, _, 2147483587, rfl, rfl, by show (0 : Int) < 2147483587; decide, ?_⟩
    · have e : (2 : Nat) ^ 64 = 18446744073709551616 := by decide
      rw [e]
      omega
    generalize (u + 104723 * (z + 1)) ^ (3 : Int).toNat % 2147483587 = v
    refine ⟨_, rfl, _, _, rfl, rfl, ⟨by decide, by decide⟩, _, rfl, _, _, rfl, rfl, hm, ?_⟩
    exact hQ _ _ (Int.emod_nonneg _ (by omega)) (Int.emod_lt_of_pos _ hm) k1 ⟨x, y, z + 1, h1, hx, hy, hy2, by omega, by omega⟩
end
end S78
/-! G2: mixed, columns, step. -/
namespace S78
open PySem PySem.Spec PyProof.Rows L2
theorem scLCols : FnScope ["box", "words"] ["box"] (defScope sLCols) := ⟨rfl, rfl, rfl, by decide +kernel, rfl, by decide +kernel, by decide +kernel⟩
theorem scLStep : FnScope ["box", "columns", "other", "way"] ["box"] (defScope sLStep) := ⟨rfl, rfl, rfl, by decide +kernel, rfl, by decide +kernel, by decide +kernel⟩
section
variable {P : Program} {w : World} {K : PySem.W.Frag} {mg : Str → Option Value} {base : Heap} {f : Addr} {fd : FuncData} {C : Addr}
/-- x != [] -/
def rNeNil : R2 := fun x y H Q => ∃ (a b : Addr) (xs : List V), x = .ref a ∧ y = .ref b ∧ H a = some (.lst xs) ∧ H b = some (.lst []) ∧ ∀ H', Ext H H' → Q (.bl (!xs.isEmpty)) H'
theorem op_neNil {X : Cx} (hr : Room 1 X.A) : OpR X (compareOp .NotEq) rNeNil := by
  intro pins s σ H x y v u Q I rx ry h
  obtain ⟨a, b, xs, rfl, rfl, ha, hb, q⟩ := h
  cases xs with
  | nil => exact RP.op_neList mon_flat eqG_flat hr pins s σ H _ _ v u Q I rx ry ⟨⟨a, b, [], [], rfl, rfl, ha, hb, Prs.nil⟩, q⟩
  | cons x0 xs =>
    cases rx
    cases ry
    show wpAny (model X.prog X.w) X.A (richCompare .NotEq (.ref a) (.ref b)) (EP X pins σ Q) X.xe s
    obtain ⟨z, its, k, r, e⟩ := I.hok a _ ha
    obtain ⟨z2, its2, k2, r2, e2⟩ := I.hok b _ hb
    cases r2
    have hne : (its.toArray.size != ([] : List Value).toArray.size) = true := by
      have := r.length
      simp only [List.length_cons] at this
      simp only [List.size_toArray, List.length_nil, bne_iff_ne]
      omega
    refine wpAny_richCompare_same_room (op := .NotEq) ⟨_, e, rfl⟩ ⟨_, e2, rfl⟩ F.slot_list_ne (GQ.call_here F.slot_list_ne ⟨_, e, rfl⟩ F.entry_list_ne (F.args_list_ne_2 _ _) ?_) hr.units0
    exact PySem.SeqAt.list_ne_lengthsAt a b _ _ _ _ _ _ _ _ hne X.prog X.w X.A (wants (fun v s' => v ≠ .notImplemented ∧ EP X pins σ Q v s') X.xe) s ⟨e, e2, (fun x => nomatch x), .bl true, H, I, rfl, q H Ext.rfl'⟩
/-- picking one after another -/
def spMix : Sp := fun vs H Q _ => ∃ (b l : Addr) (ws : List Str) (n : Nat), vs = [.ref b, .ref l] ∧ H l = some (.lst (ws.map V.str)) ∧ ws.length ≤ 10 ∧ BoxOk H b (ws.length + n) ∧
  ∀ (p : Addr) (os : List Str) (H' : Hp), H p = none → KpB b H H' → BoxOk H' b n → os.Perm ws → H' p = some (.lst (os.map V.str)) → Q (.ref p) H'
theorem erase_map : ∀ (l : List Str) (i : Nat), (l.map V.str).eraseIdx i = (l.eraseIdx i).map V.str
  | [], _ => rfl
  | _ :: _, 0 => rfl
  | a :: l, i + 1 => by
    show V.str a :: (l.map V.str).eraseIdx i = V.str a :: (l.eraseIdx i).map V.str
    rw [erase_map l i]
theorem perm_erase : ∀ (l : List Str) (i : Nat) (h : i < l.length), (l[i] :: l.eraseIdx i).Perm l
  | [], i, h => absurd h (Nat.not_lt_zero _)
  | a :: l, 0, _ => List.Perm.refl _
  | a :: l, i + 1, h => by
    have h2 : i < l.length := by simpa using h
    show (l[i] :: a :: l.eraseIdx i).Perm (a :: l)
    exact (List.Perm.swap a l[i] _).trans ((perm_erase l i h2).cons a)
theorem ok_mix (F : FnP K "_law_mixed" sMix f fd) (T : Fre mg) (GT : Cl P w K mg base CX0 1 "_law_take" spTake []) : FnOk P w K mg base CX0 2 f fd ["box", "things"] spMix := by
  refine F.ok scMix (fun vs H Q E h => by obtain ⟨b, l, ws, n, rfl, _⟩ := h; rfl) (fun cdv A outer s H vs Q E hr h => ?_)
  obtain ⟨b, l, ws, n, rfl, hl, h10, hb, hQ⟩ := h
  refine ⟨_, PSs.nox (pss_cons (ps_par (i := 2) (j := 3) rfl scMix.nd rfl rfl (by decide) rfl rfl (pa_cons (pe_callTy call_list_of rfl T.list boot_list (pa_cons (pv 1) pa_nil)) (pa_cons (pe_lst pa_nil) pa_nil)) rfl)
    (pss_cons (ps_while PassesOwn.never (pt_cmpR (op_neNil hr) (pv 2) (pe_lst pa_nil) rfl)
      (pss_one (ps_expr (pe_bm PySem.F.plainAttrs_list PySem.F.slot_list_append PySem.F.type_list_append mt_append (pv 3) (pa_cons (pe_bm PySem.F.plainAttrs_list PySem.F.slot_list_pop PySem.F.type_list_pop mt_popAt (pv 2) (pa_cons (pe_cl GT hr (by decide) rfl pass0 (pa_cons (pv 0) (pa_cons (pe_callB call_len_seq rfl T.len boot_len (pa_cons (pv 2) pa_nil)) pa_nil))) pa_nil)) pa_nil)))))
    (pss_one (ps_ret (pv 3))))), ?_⟩
  refine ⟨_, rfl, l, _, rfl, .inl (SqL.of hl), fun L hL => ⟨by decide, fun G hG => ⟨_, _, rfl, ?_⟩⟩⟩
  have hLG : L ≠ G := fun q => by rw [← q, upd_same] at hG; cases hG
  have hG0 : H G = none := by rw [upd_ne hLG.symm] at hG; exact hG
  have hLb := hb.dom hL
  have hGb := hb.dom hG0
  refine while_by (fun σ H2 => σ = [some (.ref b), some (.ref l), some (.ref L), some (.ref G)] ∧ ∃ left found : List Str, KpB b H H2 ∧ H2 L = some (.lst (left.map V.str)) ∧ H2 G = some (.lst (found.map V.str)) ∧ (found ++ left).Perm ws ∧ BoxOk H2 b (left.length + n))
    (fun σ H2 => match H2 L with | some (.lst xs) => xs.length | _ => 0) ?_ ?_ ?_
  · refine ⟨rfl, ws, [], KpB.of ((Ext.upd hL).upd' hG), by rw [upd_ne hLG, upd_same], upd_same, List.Perm.refl _, hb.ext ((Ext.upd hL).upd' hG)⟩
  · rintro σ H2 ⟨rfl, left, found, k2, hL2, hG2, hp, hb2⟩
    refine ⟨_, rfl, by decide, fun e he => ⟨L, e, _, rfl, rfl, (Ext.upd he) _ _ hL2, upd_same, fun H3 e3 => ⟨_, rfl, iteN (fun hemp => ?_) (fun hemp => ?_)⟩⟩⟩
    · have e23 : Ext H2 H3 := (Ext.upd he).trans e3
      have hlen : left.length ≤ 10 := by
        have := hp.length_eq
        rw [List.length_append] at this
        omega
      have hpos : 0 < left.length := by
        cases left with
        | nil => simp at hemp
        | cons a l => simp
      have hb3 : BoxOk H3 b ((left.length - 1 + n) + 1) := (hb2.ext e23).mono (by omega)
      refine ⟨_, rfl, .inl ⟨rfl, _, SqL.of (e23 _ _ hG2)⟩, _, rfl, .inl ⟨rfl, _, SqL.of (e23 _ _ hL2)⟩, _, rfl, _, rfl, L, _, rfl, .inl (SqL.of (e23 _ _ hL2)), b, _, _, rfl, ?_, ?_, hb3, fun d H4 hd0 hd1 k4 hb4 => ?_⟩
      · rw [List.length_map]; omega
      · rw [List.length_map]; omega
      · rw [List.length_map] at hd1
        have hL4 := k4 _ _ hLb (e23 _ _ hL2)
        have hG4 := k4 _ _ hGb (e23 _ _ hG2)
        have hdn : d.toNat < left.length := by omega
        have hsi : seqIndex? d (left.map V.str).length = some d.toNat := by
          have hn0 : ¬ d < 0 := by omega
          unfold seqIndex?
          simp only [if_neg hn0, List.length_map]
          rw [if_pos (by simp [hd0, hd1])]
        refine ⟨L, _, d, d.toNat, .str left[d.toNat], rfl, rfl, hL4, by omega, by omega, hsi, by rw [List.getElem?_map, List.getElem?_eq_getElem hdn]; rfl, G, _, _, rfl, rfl, by rw [upd_ne hLG.symm]; exact hG4, ?_, ?_, ?_⟩
        · have := hp.length_eq
          rw [List.length_append] at this
          rw [List.length_map]
          exact Nat.lt_of_le_of_lt (show found.length ≤ 10 by omega) (by decide)
        · refine ⟨rfl, left.eraseIdx d.toNat, found ++ [left[d.toNat]], ?_, ?_, ?_, ?_, ?_⟩
          · exact kpb_set (kpb_set ((k2.trans (KpB.of e23)).trans k4) hL) hG0
          · rw [upd_ne hLG, upd_same, erase_map]
          · rw [upd_same, List.map_append]
            rfl
          · rw [List.append_assoc]
            exact ((perm_erase left _ hdn).append_left found).trans hp
          · have hle : (left.eraseIdx d.toNat).length = left.length - 1 := List.length_eraseIdx_of_lt hdn
            rw [hle]
            obtain ⟨x, y, z, h1, h2⟩ := hb4
            exact ⟨x, y, z, by rw [upd_ne hGb.symm, upd_ne hLb.symm]; exact h1, h2⟩
        · show (match upd (upd H4 L (.lst ((left.map V.str).eraseIdx d.toNat))) G (.lst (found.map V.str ++ [V.str left[d.toNat]])) L with | some (.lst xs) => xs.length | _ => 0) < (match H2 L with | some (.lst xs) => xs.length | _ => 0)
          rw [upd_ne hLG, upd_same, hL2]
          show ((left.map V.str).eraseIdx d.toNat).length < (left.map V.str).length
          rw [List.length_eraseIdx_of_lt (by rw [List.length_map]; exact hdn), List.length_map]
          omega
    · have e23 : Ext H2 H3 := (Ext.upd he).trans e3
      have h0 : left = [] := by
        cases left with
        | nil => rfl
        | cons a l => simp at hemp
      subst h0
      rw [List.append_nil] at hp
      refine ⟨_, rfl, hQ G found H3 hG0 (k2.trans (KpB.of e23)) ((hb2.ext e23).mono (by simp)) hp (e23 _ _ hG2)⟩
  · rintro σ H2 Q1 Q2 hq ⟨v, h1, h2, h3⟩
    refine ⟨v, h1, h2, fun p hp => ?_⟩
    obtain ⟨a, b', xs, q1, q2, q3, q4, q5⟩ := h3 p hp
    refine ⟨a, b', xs, q1, q2, q3, q4, fun H' e => ?_⟩
    obtain ⟨k, q6, q7⟩ := q5 H' e
    exact ⟨k, q6, hq _ _ q7⟩
end
end S78
/-! G3: columns, step. -/
namespace S78
open PySem PySem.Spec PyProof.Rows L2
section
variable {P : Program} {w : World} {K : PySem.W.Frag} {mg : Str → Option Value} {base : Heap} {f : Addr} {fd : FuncData} {C : Addr}
def tenW : List Str := ["a", "ab", "b", "city", "age", "zzzzzzzz", "row", "span", "ba", "c"]
theorem tenW_ok : tenW.all nameB = true ∧ tenW.Nodup := by decide +kernel
def spLCols : Sp := fun vs H Q _ => ∃ (b : Addr) (n : Nat), vs = [.ref b] ∧ BoxOk H b (11 + n) ∧ ∀ (p : Addr) (ws : List Str) (H' : Hp), H p = none → KpB b H H' → BoxOk H' b n → colsB ws = true → H' p = some (.lst (ws.map V.str)) → Q (.ref p) H'
theorem cols_take {os : List Str} (h : os.Perm tenW) {k : Nat} (h1 : 1 ≤ k) (h2 : k ≤ 5) : colsB (os.take k) = true := by
  have hl : os.length = 10 := h.length_eq
  have hn : os.Nodup := h.nodup_iff.mpr tenW_ok.2
  have ha : ∀ z ∈ os, nameB z = true := fun z hz => List.all_eq_true.mp tenW_ok.1 z (h.mem_iff.mp hz)
  unfold colsB
  have h3 : (os.take k).length = k := by rw [List.length_take]; omega
  rw [h3, decide_eq_true (show 0 < k by omega), decide_eq_true h2, decide_eq_true (hn.sublist (List.take_sublist _ _)), List.all_eq_true.mpr fun z hz => ha z (List.mem_of_mem_take hz)]
  rfl
theorem ok_lcols (F : FnP K "_law_columns" sLCols f fd) (T : Fre mg) (GT : Cl P w K mg base CX0 1 "_law_take" spTake []) (GM : Cl P w K mg base CX0 2 "_law_mixed" spMix []) : FnOk P w K mg base CX0 3 f fd ["box"] spLCols := by
  refine F.ok scLCols (fun vs H Q E h => by obtain ⟨b, n, rfl, _⟩ := h; rfl) (fun cdv A outer s H vs Q E hr h => ?_)
  obtain ⟨b, n, rfl, hb, hQ⟩ := h
  refine ⟨_, PSs.nox (pss_cons (ps_set (i := 1) scLCols.nd rfl (Or.inl rfl) (pe_lst (pa_cons pe_str (pa_cons pe_str (pa_cons pe_str (pa_cons pe_str (pa_cons pe_str (pa_cons pe_str (pa_cons pe_str (pa_cons pe_str (pa_cons pe_str (pa_cons pe_str pa_nil))))))))))))
    (pss_one (ps_ret (pe_slice sl_list (pe_cl GM hr (by decide) rfl pass0 (pa_cons (pv 0) (pa_cons (pv 1) pa_nil))) po_none (po_some (pe_op op_add pe_int (pe_cl GT hr (by decide) rfl pass0 (pa_cons (pv 0) (pa_cons pe_int pa_nil))))))))), ?_⟩
  refine ⟨by show 10 ≤ sizeLine; decide, fun l hl => ?_⟩
  have e1 : Ext H (upd H l (.lst (tenW.map V.str))) := Ext.upd hl
  have h1 : upd H l (.lst (tenW.map V.str)) l = some (.lst (tenW.map V.str)) := upd_same
  have hb1 : BoxOk (upd H l (.lst (tenW.map V.str))) b (tenW.length + (1 + n)) := (hb.ext e1).mono (by show 10 + (1 + n) ≤ _; omega)
  show (fun H1 => _) (upd H l (.lst (tenW.map V.str)))
  generalize upd H l (.lst (tenW.map V.str)) = H1 at e1 h1 hb1
  refine ⟨_, rfl, _, rfl, b, l, tenW, 1 + n, rfl, h1, by decide, hb1, fun p os H2 hp k2 hb2 hperm h2 => ?_⟩
  refine ⟨_, rfl, b, 5, n, rfl, by decide, by decide, hb2.mono (by omega), fun d H3 hd0 hd1 k3 hb3 => ?_⟩
  have hpb : p ≠ b := hb1.dom hp
  have h3 := k3 _ _ hpb h2
  refine ⟨_, _, rfl, rfl, _, rfl, p, _, rfl, SqL.of h3, fun q hq => ?_⟩
  have hlen : os.length = 10 := hperm.length_eq
  have cut : cutV (os.map V.str) none (some (1 + d)) = (os.take (1 + d).toNat).map V.str := by
    unfold cutV HT.sIx
    have h0 : ¬ (1 + d < 0) := by omega
    simp only [h0, if_false, List.drop_zero, Nat.sub_zero, List.length_map]
    rw [Nat.min_eq_left (by rw [hlen]; omega), List.map_take]
  rw [cut]
  have kk : KpB b H H3 := ((KpB.of e1).trans k2).trans k3
  exact hQ q _ _ (kpb_none kk hq (hb3.dom hq)) (kk.trans (KpB.new hq)) (hb3.ext (Ext.upd hq)) (cols_take hperm (by omega) (by omega)) upd_same
theorem ord_made' {l : Addr} {ws : List Str} {H : Hp} {Q : Addr → Hp → Prop} (hl : H l = some (.lst (ws.map V.str))) (hw : colsB ws = true) (h : ∀ a H', Ext H H' → Ord C (fun b => H b = none) H' a ws → Q a H') :
    ∀ x dx, H x = none → H dx = none → dx ≠ x → spInit C (.ref x :: ([.ref l] ++ [])) (upd (upd H dx (.own x)) x (.ins C dx [])) (fun v H2 => v = .non ∧ Q x H2) E0 := fun x dx hx hdx hne =>
  ord_made (Q := fun v H2 => ∀ a, v = .ref a → Q a H2) hl hw (fun a H' e o b hb => by cases hb; exact h a H' e o) x dx hx hdx hne |> fun z => by
    obtain ⟨a, dx', l', ws', e, h1, h2, h3, h4⟩ := z
    exact ⟨a, dx', l', ws', e, h1, h2, h3, fun p H' g1 g2 g3 g4 => ⟨(h4 p H' g1 g2 g3 g4).1, (h4 p H' g1 g2 g3 g4).2 x rfl⟩⟩
theorem app_assoc (a b c : Str) : a ++ b ++ c = a ++ (b ++ c) := by
  show (⟨a.cps ++ b.cps ++ c.cps⟩ : Str) = ⟨a.cps ++ (b.cps ++ c.cps)⟩
  rw [Array.append_assoc]
theorem colsB_perm {ws zs : List Str} (h : colsB ws = true) (p : zs.Perm ws) : colsB zs = true := by
  obtain ⟨h1, h2, h3, h4⟩ := colsB_get h
  unfold colsB
  rw [p.length_eq, decide_eq_true h1, decide_eq_true h2, decide_eq_true (p.nodup_iff.mpr h4), List.all_eq_true.mpr fun z hz => h3 z (p.mem_iff.mp hz)]
  rfl
/-- a step and its text -/
def spLStep (C : Addr) : Sp := fun vs H Q _ => ∃ (b : Addr) (n : Nat), vs = [.ref b] ∧ BoxOk H b (28 + n) ∧ ∀ (p : Addr) (v : V) (st : Str × List (List Str)) (H' : Hp), H p = none → KpB b H H' → BoxOk H' b n → okSt st → Stp C (fun a => H a = none) H' v st → H' p = some (.tup [v, .str (stText st)]) → Q (.ref p) H'
theorem ok_lstep (F : FnP K "_law_step" sLStep f fd) (GT : Cl P w K mg base CX0 1 "_law_take" spTake []) (GM : Cl P w K mg base CX0 2 "_law_mixed" spMix []) (GC : Cl P w K mg base CX0 3 "_law_columns" spLCols []) (M : MkOr P w K mg base C) : FnOk P w K mg base CX0 5 f fd ["box"] (spLStep C) := by
  refine F.ok scLStep (fun vs H Q E h => by obtain ⟨b, n, rfl, _⟩ := h; rfl) (fun cdv A outer s H vs Q E hr h => ?_)
  obtain ⟨b, n, rfl, hb, hQ⟩ := h
  refine ⟨_, PSs.nox (pss_cons (ps_par (i := 1) (j := 2) rfl scLStep.nd rfl rfl (by decide) rfl rfl (pa_cons (pe_cl GC hr (by decide) rfl pass0 (pa_cons (pv 0) pa_nil)) (pa_cons (pe_cl GC hr (by decide) rfl pass0 (pa_cons (pv 0) pa_nil)) pa_nil)) rfl)
    (pss_cons (ps_set (i := 3) scLStep.nd rfl (Or.inl rfl) (pe_cl GT hr (by decide) rfl pass0 (pa_cons (pv 0) (pa_cons pe_int pa_nil))))
    (pss_cons (ps_if (pt_cmpR op_eq (pv 3) pe_int rfl) (pss_one (ps_ret (pe_tup (pa_cons (pe_tup (pa_cons pe_str (pa_cons (pe_order M hr (by decide) rfl (pv 1)) pa_nil))) (pa_cons (pe_op op_add_str pe_str (pe_join pe_str (pv 1))) pa_nil))))) pss_nil)
    (pss_cons (ps_if (pt_cmpR op_eq (pv 3) pe_int rfl) (pss_one (ps_ret (pe_tup (pa_cons (pe_tup (pa_cons pe_str (pa_cons (pe_order M hr (by decide) rfl (pv 1)) pa_nil))) (pa_cons (pe_op op_add_str pe_str (pe_join pe_str (pv 1))) pa_nil))))) pss_nil)
    (pss_cons (ps_set (i := 2) scLStep.nd rfl (Or.inl rfl) (pe_ifExp (pt_cmpR op_eq (pv 3) pe_int rfl) (pe_cl GM hr (by decide) rfl pass0 (pa_cons (pv 0) (pa_cons (pv 1) pa_nil))) (pv 2)))
    (pss_one (ps_ret (pe_tup (pa_cons (pe_tup (pa_cons pe_str (pa_cons (pe_order M hr (by decide) rfl (pv 1)) (pa_cons (pe_order M hr (by decide) rfl (pv 2)) pa_nil)))) (pa_cons (pe_op op_add_str (pe_op op_add_str (pe_op op_add_str pe_str (pe_join pe_str (pv 1))) pe_str) (pe_join pe_str (pv 2))) pa_nil)))))))))), ?_⟩
  refine ⟨_, rfl, b, 17 + n, rfl, hb.mono (by omega), fun p1 ws H1 hp1 k1 hb1 hw h1 => ⟨_, rfl, b, 6 + n, rfl, hb1.mono (by omega), fun p2 os H2 hp2 k2 hb2 ho h2 => ⟨_, _, rfl, ?_⟩⟩⟩
  have h12 : p1 ≠ p2 := fun q => by rw [q, hp2] at h1; cases h1
  have hp1b : p1 ≠ b := hb.dom hp1
  have hp2b : p2 ≠ b := hb1.dom hp2
  have h1' := k2 _ _ hp1b h1
  refine ⟨_, rfl, b, 4, 5 + n, rfl, by decide, by decide, hb2.mono (by omega), fun d H3 hd0 hd1 k3 hb3 => ?_⟩
  have g1 := k3 _ _ hp1b h1'
  have g2 := k3 _ _ hp2b h2
  have kk : KpB b H H3 := (k1.trans k2).trans k3
  -- the two short ways
  have one : ∀ (x lit : Str), (x = "build" ∨ x = "drop") → lit = x ++ " " → lit.length ≤ 6 → tTup (tCons (tTup (tCons (tC (.str x)) (tCons (tOrd C (tVar 1)) tNil))) (tCons (tOp (fun x y H Q => ∃ i j, x = .str i ∧ y = .str j ∧ i.length + j.length ≤ sizeLine ∧ Q (.str (i ++ j)) H) (tC (.str lit)) (tM1 (fun x xs H Q => ∃ a p, ∃ ys : List Str, x = .str a ∧ xs = [.ref p] ∧ (SqL K H p (ys.map V.str) ∨ SqT K H p (ys.map V.str)) ∧ (ys.map (·.length)).sum + ys.length * a.length ≤ 16777216 ∧ Q (.str (Txt.join a ys)) H) (tC (.str " ")) (tVar 1))) tNil))
      [some (.ref b), some (.ref p1), some (.ref p2), some (.int d)] H3 Q := by
    rintro x lit hx rfl hlit
    refine ⟨_, rfl, ord_made' g1 hw fun a H4 e4 o => ⟨by show 2 ≤ sizeLine; decide, fun q hq => ⟨⟨_, rfl⟩, _, rfl, _, p1, ws, rfl, rfl, .inl (SqL.of ((e4.trans (Ext.upd hq)) _ _ g1)), colsB_sum hw, _, _, rfl, rfl, ?_, by show 2 ≤ sizeLine; decide, fun r hr => ?_⟩⟩⟩
    · have := cols_len hw
      exact Nat.le_trans (Nat.add_le_add hlit this) (by decide)
    · have e5 : Ext H3 (upd (upd H4 q (.tup [.str x, .ref a])) r (.tup [.ref q, .str ((x ++ Str.ofString " ") ++ Txt.join " " ws)])) := (e4.upd' hq).upd' hr
      have kall := kk.trans (KpB.of e5)
      have ok : okSt (x, [ws]) := .inl ⟨hx, ws, rfl, hw⟩
      have hqr : q ≠ r := fun z => by rw [← z, upd_same] at hr; cases hr
      have oo : Ord C (fun a => H a = none) (upd (upd H4 q (.tup [.str x, .ref a])) r (.tup [.ref q, .str ((x ++ Str.ofString " ") ++ Txt.join " " ws)])) a ws := o.mono (fun c hc => kpb_none kk hc (hb3.dom hc)) fun c u _ h _ => ((Ext.upd hq).upd' hr) c u h
      have hq4 : H q = none := kpb_none (kk.trans (KpB.of e4)) hq ((hb3.ext e4).dom hq)
      refine hQ r (.ref q) (x, [ws]) _ (kpb_none (kk.trans (KpB.of (e4.upd' hq))) hr ((hb3.ext (e4.upd' hq)).dom hr)) kall ((hb3.ext e5).mono (by omega)) ok ⟨q, [.ref a], rfl, hq4, by rw [upd_ne hqr, upd_same], .cons ⟨a, rfl, oo⟩ .nil⟩ ?_
      rw [upd_same]
      rfl
  refine ⟨_, rfl, rfl, _, rfl, iteB (fun hd => ?_) (fun hd => ?_)⟩
  · exact one "build" "build " (.inl rfl) (by decide) (by decide)
  refine ⟨_, rfl, rfl, _, rfl, iteB (fun hd' => ?_) (fun hd' => ?_)⟩
  · exact one "drop" "drop " (.inr rfl) (by decide) (by decide)
  -- the relay
  have tail : ∀ (p3 : Addr) (zs : List Str) (H4 : Hp), KpB b H3 H4 → BoxOk H4 b n → H4 p3 = some (.lst (zs.map V.str)) → colsB zs = true →
      tTup (tCons (tTup (tCons (tC (.str "relay")) (tCons (tOrd C (tVar 1)) (tCons (tOrd C (tVar 2)) tNil)))) (tCons (tOp (fun x y H Q => ∃ i j, x = .str i ∧ y = .str j ∧ i.length + j.length ≤ sizeLine ∧ Q (.str (i ++ j)) H) (tOp (fun x y H Q => ∃ i j, x = .str i ∧ y = .str j ∧ i.length + j.length ≤ sizeLine ∧ Q (.str (i ++ j)) H) (tOp (fun x y H Q => ∃ i j, x = .str i ∧ y = .str j ∧ i.length + j.length ≤ sizeLine ∧ Q (.str (i ++ j)) H) (tC (.str "relay ")) (tM1 (fun x xs H Q => ∃ a p, ∃ ys : List Str, x = .str a ∧ xs = [.ref p] ∧ (SqL K H p (ys.map V.str) ∨ SqT K H p (ys.map V.str)) ∧ (ys.map (·.length)).sum + ys.length * a.length ≤ 16777216 ∧ Q (.str (Txt.join a ys)) H) (tC (.str " ")) (tVar 1))) (tC (.str " > "))) (tM1 (fun x xs H Q => ∃ a p, ∃ ys : List Str, x = .str a ∧ xs = [.ref p] ∧ (SqL K H p (ys.map V.str) ∨ SqT K H p (ys.map V.str)) ∧ (ys.map (·.length)).sum + ys.length * a.length ≤ 16777216 ∧ Q (.str (Txt.join a ys)) H) (tC (.str " ")) (tVar 2))) tNil))
        [some (.ref b), some (.ref p1), some (.ref p3), some (.int d)] H4 Q := by
    intro p3 zs H4 k4 hb4 h3 hz
    have f1 := k4 _ _ hp1b g1
    refine ⟨_, rfl, ord_made' f1 hw fun a H5 e5 oa => ⟨_, rfl, ord_made' (e5 _ _ h3) hz fun c H6 e6 oc => ⟨by show 3 ≤ sizeLine; decide, fun q hq => ?_⟩⟩⟩
    have e46 : Ext H4 (upd H6 q (.tup [.str "relay", .ref a, .ref c])) := (e5.trans e6).upd' hq
    refine ⟨⟨_, rfl⟩, _, rfl, _, p1, ws, rfl, rfl, .inl (SqL.of (e46 _ _ f1)), colsB_sum hw, _, _, rfl, rfl, ?_, _, _, rfl, rfl, ?_, ⟨_, rfl⟩, _, rfl, _, p3, zs, rfl, rfl, .inl (SqL.of (e46 _ _ h3)), colsB_sum hz, _, _, rfl, rfl, ?_, by show 2 ≤ sizeLine; decide, fun r hr => ?_⟩
    · have := cols_len hw
      exact Nat.le_trans (Nat.add_le_add (show Str.length "relay " ≤ 6 by decide) this) (by decide)
    · have := cols_len hw
      rw [strLen_append]
      exact Nat.le_trans (Nat.add_le_add (Nat.add_le_add (show Str.length "relay " ≤ 6 by decide) this) (show Str.length " > " ≤ 3 by decide)) (by decide)
    · have h1 := cols_len hw
      have h2 := cols_len hz
      rw [strLen_append, strLen_append]
      exact Nat.le_trans (Nat.add_le_add (Nat.add_le_add (Nat.add_le_add (show Str.length "relay " ≤ 6 by decide) h1) (show Str.length " > " ≤ 3 by decide)) h2) (by decide)
    · have k34 : KpB b H H4 := kk.trans k4
      have e47 : Ext H4 (upd (upd H6 q (.tup [.str "relay", .ref a, .ref c])) r (.tup [.ref q, .str (Str.ofString "relay " ++ Txt.join " " ws ++ Str.ofString " > " ++ Txt.join " " zs)])) := e46.upd' hr
      have kall := k34.trans (KpB.of e47)
      have ok : okSt ("relay", [ws, zs]) := .inr ⟨rfl, ws, zs, rfl, hw, hz⟩
      have hqr : q ≠ r := fun z => by rw [← z, upd_same] at hr; cases hr
      have up : ∀ c' u, H6 c' = some u → upd (upd H6 q (.tup [.str "relay", .ref a, .ref c])) r (.tup [.ref q, .str (Str.ofString "relay " ++ Txt.join " " ws ++ Str.ofString " > " ++ Txt.join " " zs)]) c' = some u := fun c' u h => ((Ext.upd hq).upd' hr) c' u h
      have oa' := oa.mono (S' := fun a => H a = none) (fun c' hc => kpb_none k34 hc (hb4.dom hc)) fun c' u _ h _ => up c' u (e6 c' u h)
      have oc' := oc.mono (S' := fun a => H a = none) (fun c' hc => kpb_none (k34.trans (KpB.of e5)) hc ((hb4.ext e5).dom hc)) fun c' u _ h _ => up c' u h
      have hq4 : H q = none := kpb_none (k34.trans (KpB.of (e5.trans e6))) hq ((hb4.ext (e5.trans e6)).dom hq)
      have hr4 : H r = none := kpb_none (k34.trans (KpB.of e46)) hr ((hb4.ext e46).dom hr)
      refine hQ r (.ref q) ("relay", [ws, zs]) _ hr4 kall (hb4.ext e47) ok ⟨q, [.ref a, .ref c], rfl, hq4, by rw [upd_ne hqr, upd_same], .cons ⟨a, rfl, oa'⟩ (.cons ⟨c, rfl, oc'⟩ .nil)⟩ ?_
      rw [upd_same]
      have et : Str.ofString "relay " ++ Txt.join " " ws ++ Str.ofString " > " ++ Txt.join " " zs = stText ("relay", [ws, zs]) := by
        have e1 : Str.ofString "relay " = Str.ofString "relay" ++ Str.ofString " " := by decide
        have e2 : Txt.join " > " [Txt.join " " ws, Txt.join " " zs] = Txt.join " " ws ++ Str.ofString " > " ++ Txt.join " " zs := by
          rw [TL.join_eq " > "]
          rfl
        unfold stText
        show _ = Str.ofString "relay" ++ Str.ofString " " ++ Txt.join " > " [Txt.join " " ws, Txt.join " " zs]
        rw [e2, e1, app_assoc, app_assoc, app_assoc, app_assoc, app_assoc]
      rw [et]
  refine ⟨_, rfl, rfl, _, rfl, iteB (fun hm => ?_) (fun hm => ?_)⟩
  · have h5 := (colsB_get hw).2.1
    refine ⟨_, rfl, _, rfl, b, p1, ws, 5 - ws.length + n, rfl, g1, by omega, hb3.mono (by omega), fun p3 zs H4 hp3 k4 hb4 hperm h4 => ?_⟩
    exact tail p3 zs H4 k4 (hb4.mono (by omega)) h4 (colsB_perm hw hperm)
  · exact ⟨_, rfl, tail p2 os H3 KpB.rfl' (hb3.mono (by omega)) g2 ho⟩
end
end S78
/-! G4: named, read. -/
namespace S78
open PySem PySem.Spec PyProof.Rows L2 SN
abbrev sNamed : Stmt := top 42
abbrev sRead : Stmt := top 43
theorem scNamed : FnScope ["words", "letters", "word", "one"] ["words"] (defScope sNamed) := ⟨rfl, rfl, rfl, by decide +kernel, rfl, by decide +kernel, by decide +kernel⟩
theorem scRead : FnScope ["line", "words", "at"] ["line"] (defScope sRead) := ⟨rfl, rfl, rfl, by decide +kernel, rfl, by decide +kernel, by decide +kernel⟩
section
variable {P : Program} {w : World} {K : PySem.W.Frag} {mg : Str → Option Value} {base : Heap} {f : Addr} {fd : FuncData} {C : Addr}
def spNamed : Sp := fun vs H Q _ => ∃ (l : Addr) (ws : List Str), vs = [.ref l] ∧ H l = some (.lst (ws.map V.str)) ∧ (∀ z ∈ ws, z.length ≤ 10000000) ∧ ∀ H', Ext H H' → Q (.bl (colsB ws)) H'
theorem nameB_iff {z : Str} : nameB z = (decide (0 < z.length) && (decide (z.length < 9) && (signs z).all signB)) := by
  have e : (signs z).all signB = z.cps.toList.all letterB := by
    rw [signs, List.all_map]
    rfl
  rw [e]
  unfold nameB
  have e2 : decide (z.length ≤ 8) = decide (z.length < 9) := by rw [decide_eq_decide]; omega
  rw [e2, Bool.and_assoc]
theorem ok_named (F : FnP K "_law_named" sNamed f fd) (T : Fre mg) : FnOk P w K mg base CX0 2 f fd ["words"] spNamed := by
  refine F.ok scNamed (fun vs H Q E h => by obtain ⟨l, ws, rfl, _⟩ := h; rfl) (fun cdv A outer s H vs Q E hr h => ?_)
  obtain ⟨l, ws, rfl, hl, hz, hQ⟩ := h
  refine ⟨_, PSs.nox (pss_cons (ps_if (PW.pt (pw_or (pt_not (pt_chain op_lt op_lt pe_int (pe_callB call_len_seq rfl T.len boot_len (pa_cons (pv 0) pa_nil)) pe_int)) (pw_or1 (pt_cmpR op_ne (pe_lenSetN rfl rfl T.len rfl T.set (pv 0)) (pe_callB call_len_seq rfl T.len boot_len (pa_cons (pv 0) pa_nil)) rfl)))) (pss_one (ps_ret pe_bl)) pss_nil)
    (pss_cons (ps_set (i := 1) scNamed.nd rfl (Or.inr rfl) pe_str)
    (pss_cons (ps_for PassesOwn.never rfl (pi_list (pv 0)) (pg_name (i := 2) scNamed.nd rfl (Or.inl rfl))
      (pss_one (ps_if (PW.pt (pw_or (pt_not (pt_chain op_lt op_lt pe_int (pe_callB call_len_str rfl T.len boot_len (pa_cons (pv 2) pa_nil)) pe_int)) (pw_or1 (pt_cmpR (op_neNil hr) (pe_lc (own := [("one", 3)]) (g := gName 3) (tt := tTest (tOp (fun x y H Q => ∃ (c : Nat) (z : Str), x = .str ⟨#[c]⟩ ∧ y = .str z ∧ Q (.bl (!decide (c ∈ z.cps.toList))) H) (tVar 3) (tVar 1))) rfl scNamed.nd (pi_str (pv 2)) (blkOk_by (N := ["words", "letters", "word", "one"]) (sc := defScope sNamed) (by decide +kernel))
          (fun _ _ _ _ _ => pg_name (i := 3) scNamed.nd rfl (Or.inl rfl)) (fun _ _ _ _ _ => pts_one (pt_cmpR op_notIn_sign (pv 3) (pv 1) rfl)) (fun _ _ _ _ _ => pv 3)) (pe_lst pa_nil) rfl)))) (pss_one (ps_ret pe_bl)) pss_nil)))
    (pss_one (ps_ret pe_bl))))), ?_⟩
  have S0 : SqL K H l (ws.map V.str) := SqL.of hl
  have no : colsB ws = false → ∀ H', Ext H H' → Q (.bl false) H' := fun e H' e' => by rw [← e]; exact hQ H' e'
  have no2 : (¬ (0 < ws.length ∧ ws.length ≤ 5 ∧ (∀ z ∈ ws, nameB z = true) ∧ ws.Nodup)) → colsB ws = false := fun h => by
    cases e : colsB ws with
    | false => rfl
    | true => exact absurd (colsB_get e) h
  refine ⟨_, rfl, l, _, rfl, .inl S0, _, _, rfl, rfl, _, rfl, ?_⟩
  rw [List.length_map]
  refine ite2 (fun h0 => ?_) (fun h0 => ?_)
  case refine_2 =>
    refine ⟨false, rfl, iteN (fun _ => ?_) (fun q => by cases q)⟩
    exact no (no2 fun q => h0 (decide_eq_true (by omega))) _ Ext.rfl'
  have hpos : 0 < ws.length := by have := of_decide_eq_true h0; omega
  refine ⟨_, _, rfl, rfl, _, rfl, iteN (fun h1 => ?_) (fun h1 => ?_)⟩
  · refine iteT ?_
    exact no (no2 fun q => by have := of_decide_eq_false h1; omega) _ Ext.rfl'
  have h5 : ws.length ≤ 5 := by have := of_decide_eq_true h1; omega
  refine ⟨_, rfl, l, ws, rfl, S0, by omega, _, rfl, l, _, rfl, .inl S0, rfl, _, rfl, ?_⟩
  rw [List.length_map]
  refine iteN (fun h2 => ?_) (fun h2 => ?_)
  · refine no (no2 fun q => of_decide_eq_false h2 ?_) _ Ext.rfl'
    rw [(dd_len_iff ws).mpr q.2.2.2]
  have hnd : ws.Nodup := (dd_len_iff ws).mp (by
    have q := of_decide_eq_true h2
    injection q with q
    omega)
  refine ⟨_, rfl, l, rfl, ⟨_, S0⟩, ?_⟩
  refine for_list (xs := ws.map V.str) (fun i σ H2 => ∃ x, σ = [some (.ref l), some (.str "abcdefghijklmnopqrstuvwxyz"), x, none] ∧ Ext H H2 ∧ ∀ z ∈ ws.take i, nameB z = true) ?_ ?_ ?_ ?_
  · exact ⟨_, rfl, Ext.rfl', by simp⟩
  · rintro i σ H2 hi ⟨x, rfl, e2, _⟩
    exact Same.seq e2 S0
  · rintro i v σ H2 hv ⟨x, rfl, e2, hn⟩
    obtain ⟨z, rfl, hzi⟩ := map_get hv
    have hzm : z ∈ ws := List.mem_of_getElem? hzi
    have hzl := hz z hzm
    have hzs : z.length ≤ sizeLine := Nat.le_trans hzl (by decide)
    have bad : nameB z = false → ∀ H', Ext H H' → Q (.bl false) H' := fun hb H' e' => no (no2 fun q => by rw [q.2.2.1 z hzm] at hb; cases hb) H' e'
    refine ⟨_, rfl, z, rfl, hzs, _, _, rfl, rfl, _, rfl, ?_⟩
    refine ite2 (fun k0 => ?_) (fun k0 => ?_)
    case refine_2 =>
      refine ⟨false, rfl, iteN (fun _ => ?_) (fun q => by cases q)⟩
      refine iteT (bad ?_ _ e2)
      rw [nameB_iff, decide_eq_false (fun q => k0 (decide_eq_true (by omega)))]
      rfl
    have kpos : 0 < z.length := by have := of_decide_eq_true k0; omega
    refine ⟨_, _, rfl, rfl, _, rfl, iteN (fun k1 => ?_) (fun k1 => ?_)⟩
    · refine iteT (bad ?_ _ e2)
      rw [nameB_iff, decide_eq_false (fun q : z.length < 9 => by have := of_decide_eq_false k1; omega), Bool.false_and, Bool.and_false]
    have k9 : z.length < 9 := by have := of_decide_eq_true k1; omega
    refine ⟨_, rfl, z, rfl, fun D hD => lc_it walk_signs (fun j H3 => Ext H2 H3 ∧ H3 D = some (.lst (((signs z).take j).filter fun x => !signB x))) ?_ (fun _ _ _ _ => True.intro) ?_ ?_⟩
    · exact ⟨ext_set Ext.rfl' hD, by rw [upd_same, List.take_zero]; rfl⟩
    · rintro j y H3 H4 hj ⟨e3, h3⟩ ⟨rfl, hy⟩
      obtain ⟨c, rfl⟩ := signs_get hy
      have ht : (signs z).take (j + 1) = (signs z).take j ++ [.str ⟨#[c]⟩] := by rw [List.take_add_one, hy]; rfl
      refine ⟨rfl, _, rfl, _, rfl, c, _, rfl, rfl, _, rfl, iteN (fun hc => ?_) (fun hc => ?_)⟩
      · refine ⟨_, rfl, _, h3, ?_, ext_set e3 hD, ?_⟩
        · have h1 := List.length_filter_le (fun x => !signB x) ((signs z).take j)
          have h2 : (signs z).length = z.length := by simp [signs]; rfl
          have h3 : ((signs z).take j).length ≤ (signs z).length := by rw [List.length_take]; omega
          exact Nat.lt_of_le_of_lt (show _ ≤ 9 by omega) (by decide)
        · rw [upd_same, ht, List.filter_append]
          have e : signB (.str ⟨#[c]⟩) = false := hc
          simp [e]
      · refine ⟨e3, ?_⟩
        have e : signB (.str ⟨#[c]⟩) = true := hc
        rw [h3, ht, List.filter_append]
        simp [e]
    · rintro H3 ⟨e3, h3⟩
      rw [List.take_length] at h3
      refine ⟨by decide, fun e he => ⟨D, e, _, rfl, rfl, (Ext.upd he) _ _ h3, upd_same, fun H4 e4 => ⟨_, rfl, iteN (fun hemp => ?_) (fun hemp => ?_)⟩⟩⟩
      · refine bad ?_ _ ((e2.trans e3).trans ((Ext.upd he).trans e4))
        rw [nameB_iff]
        have : (signs z).all signB = false := by
          cases q : (signs z).all signB with
          | false => rfl
          | true =>
            have q2 : (signs z).filter (fun x => !signB x) = [] := by
              rw [List.filter_eq_nil_iff]
              intro a ha
              simp [List.all_eq_true.mp q a ha]
            rw [q2] at hemp
            cases hemp
        rw [this, Bool.and_false, Bool.and_false]
      · have hall : (signs z).all signB = true := by
          rw [List.all_eq_true]
          intro a ha
          have q2 : (signs z).filter (fun x => !signB x) = [] := List.isEmpty_iff.mp hemp
          have q3 := List.filter_eq_nil_iff.mp q2 a ha
          simpa using q3
        have hnz : nameB z = true := by rw [nameB_iff, decide_eq_true kpos, decide_eq_true k9, hall]; rfl
        refine ⟨_, rfl, (e2.trans e3).trans ((Ext.upd he).trans e4), fun u hu => ?_⟩
        rw [List.take_add_one, hzi] at hu
        rcases List.mem_append.mp hu with hu | hu
        · exact hn u hu
        · have : u = z := by simpa using hu
          rw [this]
          exact hnz
  · rintro σ H2 ⟨x, rfl, e2, hn⟩
    rw [List.length_map, List.take_length] at hn
    have hc : colsB ws = true := by
      unfold colsB
      rw [decide_eq_true hpos, decide_eq_true h5, decide_eq_true hnd, List.all_eq_true.mpr hn]
      rfl
    have := hQ H2 e2
    rw [hc] at this
    exact this
end
end S78
/-! G5: read. -/
namespace S78
open PySem PySem.Spec PyProof.Rows L2 SN
section
variable {X : Cx}
/-- how often a text stands in a list of texts -/
def rCntS (K : PySem.W.Frag) : V → List V → Hp → VK → Prop := fun x xs H Q => ∃ (p : Addr) (ws : List Str) (z : Str), x = .ref p ∧ xs = [.str z] ∧ SqL K H p (ws.map V.str) ∧ Q (.int (ws.count z : Nat)) H
theorem count_eqU {z : Str} : ∀ {ws : List Str} {its : List Value}, Vals (ws.map V.str) its → its.countP (eqU (.str z)) = ws.count z
  | [], _, h => by cases h; rfl
  | w :: ws, _, h => by
    cases h with
    | cons r1 r2 =>
      obtain ⟨t, rfl⟩ := r1
      rw [List.countP_cons, List.count_cons, count_eqU r2]
      rfl
theorem mt_scount : MtR X "list.count" (rCntS X.K) := by
  intro pins s σ H x xs v us Q I rx rxs h
  obtain ⟨p, ws, z, rfl, rfl, hs, q⟩ := h
  cases rx
  obtain ⟨u, rfl, ru⟩ := rxs.one
  obtain ⟨t, rfl⟩ := ru
  obtain ⟨its, rv, ⟨⟨cls, dd, data, sl⟩, n, ho, hc, hdn, hd⟩, hlen⟩ := I.list hs
  simp only at hc hd
  subst hc hd
  refine call_meets PySem.F.slot_list_count ⟨_, ho, rfl⟩ PySem.F.entry_list_count (PySem.F.args_list_count_2 _ _)
    (SeqAt.list_countAt p its.toArray n dd sl (.str z t) (eqU (.str z))) ⟨ho, fun y hy => mem_eqAt (x := .str z) ⟨t, rfl⟩ rfl rv (flatS ws) y (by simpa using hy), ?_⟩
  have ec : its.toArray.toList.countP (eqU (.str z)) = ws.count z := count_eqU rv
  refine ⟨.int (ws.count z : Nat), H, I.tok _, ⟨s.toks, ?_⟩, q⟩
  show Value.int ((its.toArray.toList.countP (eqU (.str z)) : Nat) : Int) s.toks = Value.int ((ws.count z : Nat) : Int) s.toks
  rw [ec]
end
section
variable {P : Program} {w : World} {K : PySem.W.Frag} {mg : Str → Option Value} {base : Heap} {f : Addr} {fd : FuncData} {C : Addr}
def spRead (C : Addr) : Sp := fun vs H Q _ => ∃ z : Str, vs = [.str z] ∧ z.length ≤ 1000000 ∧ (∀ st, pSt z = some st → NewStp C st H Q) ∧ (pSt z = none → ∀ H', Ext H H' → Q .non H')
theorem gt_notin {ws : List Str} (h : colsB ws = true) : (">" : Str) ∉ ws := fun hm => by
  have := (colsB_get h).2.2.1 _ hm
  exact absurd this (by decide +kernel)
theorem count_mid {W1 W2 : List Str} {g : Str} (h1 : g ∉ W1) (h2 : g ∉ W2) : (W1 ++ g :: W2).count g = 1 := by
  rw [List.count_append, List.count_cons_self, List.count_eq_zero_of_not_mem h1, List.count_eq_zero_of_not_mem h2]
theorem split_count {g : Str} : ∀ {W : List Str}, W.count g = 1 → ∃ W1 W2, W = W1 ++ g :: W2 ∧ g ∉ W1 ∧ g ∉ W2
  | [], h => by simp at h
  | a :: W, h => by
    by_cases e : a = g
    · subst e
      rw [List.count_cons_self] at h
      exact ⟨[], W, rfl, by simp, List.count_eq_zero.mp (by omega)⟩
    · rw [List.count_cons_of_ne e] at h
      obtain ⟨W1, W2, h1, h2, h3⟩ := split_count h
      exact ⟨a :: W1, W2, by rw [h1]; rfl, fun hm => by rcases List.mem_cons.mp hm with hm | hm; exact e hm.symm; exact h2 hm, h3⟩
theorem mid_inj {g : Str} : ∀ {W1 V1 W2 V2 : List Str}, g ∉ W1 → g ∉ V1 → W1 ++ g :: W2 = V1 ++ g :: V2 → W1 = V1 ∧ W2 = V2
  | [], [], _, _, _, _, h => by
    injection h with _ h
    exact ⟨rfl, h⟩
  | [], v :: V1, _, _, _, h2, h => by
    injection h with h3 _
    exact absurd (by rw [← h3]; exact .head _) h2
  | w :: W1, [], _, _, h1, _, h => by
    injection h with h3 _
    exact absurd (by rw [h3]; exact .head _) h1
  | w :: W1, v :: V1, _, _, h1, h2, h => by
    injection h with h3 h4
    obtain ⟨e1, e2⟩ := mid_inj (fun q => h1 (.tail _ q)) (fun q => h2 (.tail _ q)) h4
    exact ⟨by rw [h3, e1], e2⟩
theorem cut1 {a : V} {xs : List V} : cutV (a :: xs) (some 1) none = xs := by
  unfold cutV HT.sIx
  simp
theorem ok_read (F : FnP K "_law_read" sRead f fd) (GN : Cl P w K mg base CX0 2 "_law_named" spNamed []) (M : MkOr P w K mg base C) : FnOk P w K mg base CX0 5 f fd ["line"] (spRead C) := by
  refine F.ok scRead (fun vs H Q E h => by obtain ⟨z, rfl, _⟩ := h; rfl) (fun cdv A outer s H vs Q E hr h => ?_)
  obtain ⟨z, rfl, hz, hQ1, hQ2⟩ := h
  have hls : (1000002 : Nat) < sizeLine := by decide
  obtain ⟨w0, W, hs⟩ : ∃ w W, Txt.split z " " = w :: W := by
    cases e : Txt.split z " " with
    | nil => exact absurd e (split_ne z " ")
    | cons w W => exact ⟨w, W, rfl⟩
  have hlen : ∀ u ∈ w0 :: W, u.length ≤ 1000000 := fun u hu => by
    rw [← hs] at hu
    exact Nat.le_trans (part_short hu) hz
  obtain ⟨tr, htr, hrest⟩ : ∃ t, PSs (cxOf CX0 P w K mg base ["line", "words", "at"] "_law_read" (defScope sRead) f cdv A outer s H E).nox ((defBody sRead).drop 2) t ∧
      ∀ (p : Addr) (H2 : Hp), Ext H H2 → H2 p = some (.lst ((w0 :: W).map V.str)) → (¬ ((w0 = "build" ∨ w0 = "drop") ∧ colsB W = true)) → t { nx := fun _ H' => Q .non H', rt := Q } [some (.str z), some (.ref p), none] H2 := by
    refine ⟨_, pss_cons (ps_if (PW.pt (pw_and (pt_cmpR op_eq (pe_ix ix_list (pv 1) pe_int (fun _ _ => rfl)) pe_str rfl) (pw_and1 (pt_cmpR op_eq (pe_bm PySem.F.plainAttrs_list PySem.F.slot_list_count PySem.F.type_list_count mt_scount (pv 1) (pa_cons pe_str pa_nil)) pe_int rfl))))
        (pss_cons (ps_set (i := 2) scRead.nd rfl (Or.inl rfl) (pe_bm PySem.F.plainAttrs_list PySem.F.slot_list_index PySem.F.type_list_index mt_index (pv 1) (pa_cons pe_str pa_nil)))
        (pss_one (ps_if (PW.pt (pw_and (pt_val (pe_cl GN hr (by decide) rfl pass0 (pa_cons (pe_slice sl_list (pv 1) (po_some pe_int) (po_some (pv 2))) pa_nil))) (pw_and1 (pt_val (pe_cl GN hr (by decide) rfl pass0 (pa_cons (pe_slice sl_list (pv 1) (po_some (pe_op op_add (pv 2) pe_int)) po_none) pa_nil))))))
          (pss_one (ps_ret (pe_tup (pa_cons pe_str (pa_cons (pe_order M hr (by decide) rfl (pe_slice sl_list (pv 1) (po_some pe_int) (po_some (pv 2)))) (pa_cons (pe_order M hr (by decide) rfl (pe_slice sl_list (pv 1) (po_some (pe_op op_add (pv 2) pe_int)) po_none)) pa_nil)))))) pss_nil))) pss_nil)
      (pss_one (ps_ret pe_non)), ?_⟩
    intro p H2 e2 hp2 hno
    have at0 : atI ((w0 :: W).map V.str) 0 = some (.str w0) := by
      unfold atI ixN
      simp
    have S2 : SqL K H2 p ((w0 :: W).map V.str) := SqL.of hp2
    have none_of : (∀ W1 W2 : List Str, w0 = "relay" → W = W1 ++ (">" : Str) :: W2 → colsB W1 = true → colsB W2 = true → False) → pSt z = none := fun hx => by
      cases e : pSt z with
      | none => rfl
      | some st =>
        rcases pSt_iff.mp e with ⟨w', W', h1, h2, h3, _⟩ | ⟨W1, W2, h1, h2, h3, _⟩
        · rw [hs] at h2
          injection h2 with h4 h5
          exact absurd ⟨by rw [h4]; exact h1, by rw [h5]; exact h3⟩ hno
        · rw [hs] at h1
          injection h1 with h4 h5
          exact (hx W1 W2 h4 h5 h2 h3).elim
    refine ⟨_, rfl, p, _, 0, .str w0, rfl, rfl, S2, at0, rfl, _, rfl, iteB (fun hw => ?_) (fun hw => ?_)⟩
    case refine_2 => exact hQ2 (none_of fun W1 W2 q _ _ _ => of_decide_eq_false hw (by rw [q])) H2 e2
    have hw2 : w0 = "relay" := by
      have q := of_decide_eq_true hw
      injection q
    subst hw2
    have hcr : ((("relay" : Str) :: W).count (">" : Str)) = W.count (">" : Str) := List.count_cons_of_ne (by decide)
    refine ⟨_, rfl, .inl ⟨rfl, _, S2⟩, p, _, ">", rfl, rfl, S2, rfl, _, rfl, ?_⟩
    rw [hcr]
    refine iteB (fun hc => ?_) (fun hc => ?_)
    case refine_2 =>
      refine hQ2 (none_of fun W1 W2 _ q c1 c2 => of_decide_eq_false hc ?_) H2 e2
      rw [q, count_mid (gt_notin c1) (gt_notin c2)]
      rfl
    have hc1 : W.count (">" : Str) = 1 := by
      have q := of_decide_eq_true hc
      injection q with q
      omega
    obtain ⟨W1, W2, hW, n1, n2⟩ := split_count hc1
    subst hW
    have hix : (((("relay" : Str) :: (W1 ++ (">" : Str) :: W2)).map V.str)[1 + W1.length]?) = some (.str ">") := by
      rw [List.getElem?_map, Nat.add_comm 1, List.getElem?_cons_succ, List.getElem?_append_right (Nat.le_refl _), Nat.sub_self]
      rfl
    have hbef : ∀ (m : Nat) (z' : V), m < 1 + W1.length → ((("relay" : Str) :: (W1 ++ (">" : Str) :: W2)).map V.str)[m]? = some z' → eqV z' (.str ">") = false := fun m z' hm hz' => by
      obtain ⟨u, rfl, hu⟩ := map_get hz'
      have hne : u ≠ (">" : Str) := fun q => by
        rw [q] at hu
        cases m with
        | zero => simp at hu; exact absurd hu (by decide)
        | succ m =>
          rw [List.getElem?_cons_succ, List.getElem?_append_left (by omega)] at hu
          exact n1 (List.mem_of_getElem? hu)
      show (u == (">" : Str)) = false
      simpa using hne
    refine ⟨_, rfl, .inl ⟨rfl, _, S2⟩, p, _, .str ">", 1 + W1.length, .str ">", rfl, rfl, S2, rfl, flatS _, hix, by rfl, hbef, ?_⟩
    have cutA : cutV ((("relay" : Str) :: (W1 ++ (">" : Str) :: W2)).map V.str) (some 1) (some ((1 + W1.length : Nat) : Int)) = W1.map V.str := by
      unfold cutV HT.sIx
      have h0 : ¬ (((1 + W1.length : Nat) : Int) < 0) := by omega
      simp only [List.length_map, List.length_cons, List.length_append, h0, if_false]
      have e1 : min (1 : Int).toNat (W1.length + (W2.length + 1) + 1) = 1 := by simp
      have e2 : min ((1 + W1.length : Nat) : Int).toNat (W1.length + (W2.length + 1) + 1) = 1 + W1.length := by
        rw [Int.toNat_natCast]
        omega
      have e3 : ¬ ((1 : Int) < 0) := by decide
      rw [if_neg e3, e1, e2]
      simp [List.map_append]
    have cutB : cutV ((("relay" : Str) :: (W1 ++ (">" : Str) :: W2)).map V.str) (some (((1 + W1.length : Nat) : Int) + 1)) none = W2.map V.str := by
      unfold cutV HT.sIx
      have h0 : ¬ (((1 + W1.length : Nat) : Int) + 1 < 0) := by omega
      simp only [List.length_map, List.length_cons, List.length_append, h0, if_false]
      have e2 : min (((1 + W1.length : Nat) : Int) + 1).toNat (W1.length + (W2.length + 1) + 1) = W1.length + 2 := by omega
      rw [e2]
      have e4 : (("relay" : Str) :: (W1 ++ (">" : Str) :: W2)).map V.str = ((("relay" : Str) :: W1 ++ [(">" : Str)]).map V.str) ++ W2.map V.str := by simp
      rw [e4, List.drop_left' (by simp)]
      rw [List.take_of_length_le]
      rw [List.length_map]
      omega
    have lW1 : ∀ u ∈ W1, u.length ≤ 10000000 := fun u hu => Nat.le_trans (hlen u (.tail _ (List.mem_append_left _ hu))) (by decide)
    have lW2 : ∀ u ∈ W2, u.length ≤ 10000000 := fun u hu => Nat.le_trans (hlen u (.tail _ (List.mem_append_right _ (.tail _ hu)))) (by decide)
    have un : ∀ V1 V2 : List Str, W1 ++ (">" : Str) :: W2 = V1 ++ (">" : Str) :: V2 → colsB V1 = true → colsB V2 = true → W1 = V1 ∧ W2 = V2 := fun V1 V2 e c1 c2 => mid_inj n1 (gt_notin c1) e
    refine ⟨_, rfl, _, rfl, _, rfl, _, rfl, p, _, rfl, S2, fun q hq => ?_⟩
    rw [cutA]
    refine ⟨q, W1, rfl, upd_same, lW1, fun H3 e3 => ⟨colsB W1, rfl, iteB (fun c1 => ?_) (fun c1 => ?_)⟩⟩
    case refine_2 =>
      refine hQ2 (none_of fun V1 V2 _ e d1 d2 => ?_) H3 (e2.trans ((Ext.upd hq).trans e3))
      rw [(un V1 V2 e d1 d2).1, d1] at c1
      cases c1
    have hp3 : H3 p = _ := e3 _ _ ((Ext.upd hq) _ _ hp2)
    refine ⟨_, rfl, _, rfl, _, _, rfl, rfl, _, rfl, p, _, rfl, SqL.of hp3, fun q2 hq2 => ?_⟩
    rw [cutB]
    have e23 : Ext H H3 := e2.trans ((Ext.upd hq).trans e3)
    refine ⟨q2, W2, rfl, upd_same, lW2, fun H4 e4 => ⟨colsB W2, rfl, iteB (fun c2 => ?_) (fun c2 => ?_)⟩⟩
    case refine_2 =>
      refine hQ2 (none_of fun V1 V2 _ e d1 d2 => ?_) H4 (e23.trans ((Ext.upd hq2).trans e4))
      rw [(un V1 V2 e d1 d2).2, d2] at c2
      cases c2
    have e24 : Ext H H4 := e23.trans ((Ext.upd hq2).trans e4)
    have hp4 : H4 p = _ := e4 _ _ ((Ext.upd hq2) _ _ hp3)
    have hst : pSt z = some (("relay" : Str), [W1, W2]) := pSt_iff.mpr (.inr ⟨W1, W2, hs, c1, c2, rfl⟩)
    refine ⟨_, rfl, _, rfl, _, rfl, _, rfl, p, _, rfl, SqL.of hp4, fun q3 hq3 => ?_⟩
    rw [cutA]
    refine ord_made' upd_same c1 fun a H5 e5 oa => ?_
    have e25 : Ext H4 H5 := (Ext.upd hq3).trans e5
    have hp5 : H5 p = _ := e25 _ _ hp4
    refine ⟨_, rfl, _, rfl, _, _, rfl, rfl, _, rfl, p, _, rfl, SqL.of hp5, fun q4 hq4 => ?_⟩
    rw [cutB]
    refine ord_made' upd_same c2 fun c H6 e6 oc => ⟨by show 3 ≤ sizeLine; decide, fun r hr => ?_⟩
    have e46 : Ext H5 H6 := (Ext.upd hq4).trans e6
    have e26 : Ext H H6 := (e24.trans e25).trans e46
    refine hQ1 _ hst _ _ (e26.upd' hr) ⟨r, [.ref a, .ref c], rfl, ext_none e26 hr, upd_same, .cons ⟨a, rfl, ?_⟩ (.cons ⟨c, rfl, ?_⟩ .nil)⟩
    · exact oa.mono (fun b hb => ext_none (e24.upd' hq3) hb) fun b u _ h _ => (Ext.upd hr) b u (e46 b u h)
    · exact oc.mono (fun b hb => ext_none ((e24.trans e25).upd' hq4) hb) fun b u _ h _ => (Ext.upd hr) b u h
  refine ⟨_, PSs.nox (pss_cons (ps_set (i := 1) scRead.nd rfl (Or.inl rfl) (pe_split (pv 0) pe_str))
    (pss_cons (ps_if (PW.pt (pw_and (pt_cmpR op_in_seq (pe_ix ix_list (pv 1) pe_int (fun _ _ => rfl)) (pe_tup (pa_cons pe_str (pa_cons pe_str pa_nil))) rfl) (pw_and1 (pt_val (pe_cl GN hr (by decide) rfl pass0 (pa_cons (pe_slice sl_list (pv 1) (po_some pe_int) po_none) pa_nil))))))
      (pss_one (ps_ret (pe_tup (pa_cons (pe_ix ix_list (pv 1) pe_int (fun _ _ => rfl)) (pa_cons (pe_order M hr (by decide) rfl (pe_slice sl_list (pv 1) (po_some pe_int) po_none)) pa_nil))))) pss_nil) htr)), ?_⟩
  refine ⟨_, rfl, ⟨_, rfl⟩, z, " ", rfl, rfl, by decide, by omega, fun p hp => ?_⟩
  rw [hs]
  have e1 : Ext H (upd H p (.lst ((w0 :: W).map V.str))) := Ext.upd hp
  have hp1 : upd H p (.lst ((w0 :: W).map V.str)) p = some (.lst ((w0 :: W).map V.str)) := upd_same
  generalize upd H p (.lst ((w0 :: W).map V.str)) = H1 at e1 hp1
  have at0 : atI ((w0 :: W).map V.str) 0 = some (.str w0) := by
    unfold atI ixN
    simp
  refine ⟨_, rfl, p, _, 0, .str w0, rfl, rfl, SqL.of hp1, at0, by show 2 ≤ sizeLine; decide, fun t ht => ⟨t, _, rfl, .inr (SqT.of upd_same), rfl, rfl, _, rfl, ?_⟩⟩
  have ein : inV (.str w0) [.str "build", .str "drop"] = decide (w0 ∈ (["build", "drop"] : List Str)) := inV_strs (ws := ["build", "drop"])
  have e2 : Ext H (upd H1 t (.tup [.str "build", .str "drop"])) := e1.upd' ht
  have hp2 : upd H1 t (.tup [.str "build", .str "drop"]) p = some (.lst ((w0 :: W).map V.str)) := (Ext.upd ht) _ _ hp1
  generalize upd H1 t (.tup [.str "build", .str "drop"]) = H2 at e2 hp2
  show if inV (.str w0) [.str "build", .str "drop"] = true then _ else _
  rw [ein]
  refine iteB (fun hw => ?_) (fun hw => ?_)
  · have hw2 : w0 = "build" ∨ w0 = "drop" := by
      have := of_decide_eq_true hw
      simpa only [List.mem_cons, List.not_mem_nil, or_false] using this
    refine ⟨_, rfl, _, rfl, p, _, rfl, SqL.of hp2, fun q hq => ?_⟩
    rw [List.map_cons, cut1]
    refine ⟨q, W, rfl, upd_same, fun u hu => Nat.le_trans (hlen u (.tail _ hu)) (by decide), fun H3 e3 => ⟨colsB W, rfl, iteB (fun hc => ?_) (fun hc => ?_)⟩⟩
    · have e4 : Ext H H3 := (e2.upd' hq).trans e3
      have hp3 : H3 p = some (.lst ((w0 :: W).map V.str)) := e3 _ _ ((Ext.upd hq) _ _ hp2)
      refine ⟨_, rfl, p, _, 0, .str w0, rfl, rfl, SqL.of hp3, at0, _, rfl, _, rfl, p, _, rfl, SqL.of hp3, fun q2 hq2 => ?_⟩
      rw [List.map_cons, cut1]
      refine ord_made' upd_same hc fun a H4 e5 o => ⟨by show 2 ≤ sizeLine; decide, fun r hr => ?_⟩
      have e6 : Ext H H4 := (e4.upd' hq2).trans e5
      have hst : pSt z = some (w0, [W]) := pSt_iff.mpr (.inl ⟨w0, W, hw2, hs, hc, rfl⟩)
      exact hQ1 _ hst _ _ (e6.upd' hr) ⟨r, [.ref a], rfl, ext_none e6 hr, upd_same, .cons ⟨a, rfl, o.mono (fun b hb => ext_none (e4.upd' hq2) hb) fun b u _ h _ => (Ext.upd hr) b u h⟩ .nil⟩
    · exact hrest p H3 ((e2.upd' hq).trans e3) (e3 _ _ ((Ext.upd hq) _ _ hp2)) fun q => by rw [q.2] at hc; cases hc
  · refine hrest p H2 e2 hp2 fun q => ?_
    have := of_decide_eq_false hw
    simp only [List.mem_cons, List.not_mem_nil, or_false] at this
    exact this q.1
end
end S78
/-! G6: due. -/
namespace S78
open PySem PySem.Spec PyProof.Rows L2 SN
abbrev sDue : Stmt := top 45
theorem scDue : FnScope ["text", "found", "index", "line", "step"] ["text"] (defScope sDue) := ⟨rfl, rfl, rfl, by decide +kernel, rfl, by decide +kernel, by decide +kernel⟩
section
variable {P : Program} {w : World} {K : PySem.W.Frag} {mg : Str → Option Value} {base : Heap} {f : Addr} {fd : FuncData} {C : Addr}
def spDue (C : Addr) : Sp := fun vs H Q _ => ∃ z : Str, vs = [.str z] ∧ z.length ≤ 100000 ∧ (∀ i : Nat, pLines 0 (linesOf z) = .inl i → ∀ p H', H p = none → Ext H H' → H' p = some (.lst [.str "line", .int (i : Nat)]) → Q (.ref p) H') ∧
  (∀ sts, pLines 0 (linesOf z) = .inr sts → ∀ p q xs H', H p = none → H q = none → Ext H H' → H' p = some (.lst [.str "told", .ref q]) → H' q = some (.lst xs) → All2 (Stp C An H') xs sts → Q (.ref p) H')
theorem ok_due (F : FnP K "_law_due" sDue f fd) (T : Fre mg) (GR : Cl P w K mg base CX0 5 "_law_read" (spRead C) []) : FnOk P w K mg base CX0 6 f fd ["text"] (spDue C) := by
  refine F.ok scDue (fun vs H Q E h => by obtain ⟨z, rfl, _⟩ := h; rfl) (fun cdv A outer s H vs Q E hr h => ?_)
  obtain ⟨z, rfl, hz, hQ1, hQ2⟩ := h
  refine ⟨_, PSs.nox (pss_cons (ps_set (i := 1) scDue.nd rfl (Or.inl rfl) (pe_lst pa_nil))
    (pss_cons (ps_for PassesOwn.never rfl (pi_enum rfl T.enum (pa_cons (pe_ifExp (pt_cmpR op_ne (pv 0) pe_str rfl) (pe_split (pv 0) pe_str) (pe_lst pa_nil)) pa_nil)) (pg_tup (n := 2) rfl (by exact pgs_cons (pg_name (i := 2) scDue.nd rfl (Or.inl rfl)) (pgs_cons (pg_name (i := 3) scDue.nd rfl (Or.inl rfl)) pgs_nil)))
      (pss_cons (ps_set (i := 4) scDue.nd rfl (Or.inl rfl) (pe_cl GR hr (by decide) rfl pass0 (pa_cons (pv 3) pa_nil)))
      (pss_cons (ps_if (PW.pt (pw_or (pt_cmpR op_isN (pv 4) pe_non rfl) (pw_or1 (pt_cmpR op_eq (pv 2) pe_int rfl)))) (pss_one (ps_ret (pe_lst (pa_cons pe_str (pa_cons (pv 2) pa_nil))))) pss_nil)
      (pss_one (ps_expr (pe_bm PySem.F.plainAttrs_list PySem.F.slot_list_append PySem.F.type_list_append mt_append (pv 1) (pa_cons (pv 4) pa_nil)))))))
    (pss_one (ps_ret (pe_lst (pa_cons pe_str (pa_cons (pv 1) pa_nil))))))), ?_⟩
  have hls : (100002 : Nat) < sizeLine := by decide
  refine ⟨by decide, fun D hD => ⟨_, rfl, rfl, _, rfl, iteN (fun hc => ?_) (fun hc => ?_)⟩⟩
  · refine ⟨_, rfl, ⟨_, rfl⟩, z, "\n", rfl, rfl, by decide, by omega, fun p hp => ?_⟩
    have hlin : Txt.split z "\n" = linesOf z := (if_neg (fun q => of_decide_eq_false hc (congrArg V.str q))).symm
    rw [hlin]
    have hp1 : upd (upd H D (.lst [])) p (.lst ((linesOf z).map V.str)) p = some (.lst ((linesOf z).map V.str)) := upd_same
    have hpD : D ≠ p := fun q => by rw [← q, upd_same] at hp; cases hp
    have hD1 : upd (upd H D (.lst [])) p (.lst ((linesOf z).map V.str)) D = some (.lst []) := by rw [upd_ne hpD, upd_same]
    have e1 : Ext H (upd (upd H D (.lst [])) p (.lst ((linesOf z).map V.str))) := (Ext.upd hD).upd' hp
    generalize upd (upd H D (.lst [])) p (.lst ((linesOf z).map V.str)) = H1 at hp1 hD1 e1
    refine ⟨p, _, rfl, SqL.of hp1, for_it (walk_enum (xs := (linesOf z).map V.str)) (fun i σ H3 => ∃ a b c acc sts, σ = [some (.str z), some (.ref D), a, b, c] ∧ Ext H H3 ∧ H3 p = some (.lst ((linesOf z).map V.str)) ∧ H3 D = some (.lst acc) ∧
        All2 (Stp C (fun b => b ≠ D ∧ H b = none) H3) acc sts ∧ All2 (fun l st => pSt l = some st) ((linesOf z).take i) sts ∧ i ≤ 100) ?_ ?_ ?_ ?_⟩
    · exact ⟨_, _, _, [], [], rfl, e1, hp1, hD1, .nil, .nil, Nat.zero_le _⟩
    · rintro i σ H3 hi ⟨a, b, c, acc, sts, rfl, e3, hp3, _⟩
      exact SqL.of hp3
    · rintro i v σ H3 H4 hi ⟨a, b, c, acc, sts, rfl, e3, hp3, hD3, hA, hS, hi100⟩ ⟨T, x, y, rfl, hT, rfl, ex, hy⟩
      cases ex
      obtain ⟨l, rfl, hl⟩ := map_get hy
      have e4 : Ext H (upd H3 T (.tup [.int (i : Nat), .str l])) := e3.upd' hT
      have hp4 := (Ext.upd (o := HO.tup [.int (i : Nat), .str l]) hT) _ _ hp3
      have hD4 := (Ext.upd (o := HO.tup [.int (i : Nat), .str l]) hT) _ _ hD3
      have hA4 := hA.imp fun x y (o : Stp C (fun b => b ≠ D ∧ H b = none) H3 x y) => o.ext (Ext.upd (o := HO.tup [.int (i : Nat), .str l]) hT)
      have hT4 : upd H3 T (.tup [.int (i : Nat), .str l]) T = some (.tup [.int (i : Nat), .str l]) := upd_same
      generalize upd H3 T (.tup [.int (i : Nat), .str l]) = H4 at e4 hp4 hD4 hA4 hT4
      have hll : l.length ≤ 1000000 := by
        have hm : l ∈ linesOf z := List.mem_of_getElem? hl
        unfold linesOf at hm
        split at hm
        · cases hm
        · exact Nat.le_trans (part_short hm) (by omega)
      have ret : ∀ H5, Ext H H5 → (pSt l = none ∨ i = 100) → [V.str "line", V.int (i : Nat)].length ≤ sizeLine ∧ ∀ q, H5 q = none → Q (.ref q) (upd H5 q (.lst [.str "line", .int (i : Nat)])) := fun H5 e5 hb => by
        refine ⟨by show 2 ≤ sizeLine; decide, fun q hq => ?_⟩
        have hpl : pLines 0 (linesOf z) = .inl i := by
          have q := pl_bad (k := 0) hS hl (by
            rcases hb with hb | hb
            · rcases Nat.lt_or_ge i 100 with h | h
              · exact .inr ⟨by omega, hb⟩
              · exact .inl (by omega)
            · exact .inl (by omega))
          rw [q, Nat.zero_add]
        exact hQ1 i hpl q _ (ext_none e5 hq) (e5.upd' hq) upd_same
      refine ⟨T, _, rfl, SqT.of hT4, rfl, _, _, rfl, _, _, rfl, rfl, ?_⟩
      refine ⟨_, rfl, l, rfl, hll, fun st hst v H5 e5 ho => ?_, fun hn H5 e5 => ?_⟩
      case refine_2 =>
        exact ⟨_, rfl, rfl, _, rfl, iteT (iteT ⟨_, rfl, ret H5 (e4.trans e5) (.inl hn)⟩)⟩
      have e45 := e4.trans e5
      obtain ⟨pv', os', rfl, _⟩ := id ho
      refine ⟨_, rfl, rfl, _, rfl, iteF ⟨_, rfl, rfl, _, rfl, iteB (fun h100 => ?_) (fun h100 => ?_)⟩⟩
      · have hi2 : i = 100 := by
          have q := of_decide_eq_true h100
          injection q with q
          omega
        exact ⟨_, rfl, ret H5 e45 (.inr hi2)⟩
      · have hi2 : i < 100 := by
          have q := of_decide_eq_false h100
          have q2 : i ≠ 100 := fun q3 => q (by rw [q3]; rfl)
          omega
        have hal : acc.length ≤ 100 := by
          have q := hS.1
          rw [List.length_take] at q
          have q2 := hA.1
          omega
        have hD5 := e5 _ _ hD4
        have k5 : KpB D H4 (upd H5 D (.lst (acc ++ [.ref pv']))) := (KpB.of e5).trans .at
        refine ⟨_, rfl, .inl ⟨rfl, _, SqL.of hD5⟩, _, rfl, D, acc, .ref pv', rfl, rfl, hD5, by omega, _, _, _, acc ++ [.ref pv'], sts ++ [st], rfl, ext_set e45 hD, ?_, upd_same, ?_, ?_, hi2⟩
        · exact k5 _ _ hpD.symm hp4
        · refine All2.snoc (hA4.imp fun x y o => o.mono (fun b q => q) fun b u q h _ => k5 b u q.1 h) (ho.mono (fun b hb => ⟨fun q => ?_, ext_none e4 hb⟩) fun b u hb h _ => ?_)
          · rw [q, hD4] at hb; cases hb
          · have hbD : b ≠ D := fun q => by rw [q, hD4] at hb; cases hb
            rw [upd_ne hbD]
            exact h
        · have ht : (linesOf z).take (i + 1) = (linesOf z).take i ++ [l] := by rw [List.take_add_one, hl]; rfl
          rw [ht]
          exact hS.snoc hst
    · rintro σ H3 ⟨a, b, c, acc, sts, rfl, e3, hp3, hD3, hA, hS, hi100⟩
      rw [List.length_map, List.take_length] at hS
      rw [List.length_map] at hi100
      refine ⟨_, rfl, by show 2 ≤ sizeLine; decide, fun q hq => ?_⟩
      exact hQ2 sts (pl_ok hS (by omega)) q D acc _ (ext_none e3 hq) hD (e3.upd' hq) upd_same ((Ext.upd hq) _ _ hD3) (hA.imp fun x y o => (o.ext (Ext.upd hq)).any)
  · refine ⟨by decide, fun p hp => ?_⟩
    have hlin : ([] : List Str) = linesOf z := (if_pos (by have q := of_decide_eq_true hc; injection q)).symm
    have hp1 : upd (upd H D (.lst [])) p (.lst []) p = some (.lst ((linesOf z).map V.str)) := by rw [upd_same, ← hlin]; rfl
    have hpD : D ≠ p := fun q => by rw [← q, upd_same] at hp; cases hp
    have hD1 : upd (upd H D (.lst [])) p (.lst []) D = some (.lst []) := by rw [upd_ne hpD, upd_same]
    have e1 : Ext H (upd (upd H D (.lst [])) p (.lst [])) := (Ext.upd hD).upd' hp
    generalize upd (upd H D (.lst [])) p (.lst []) = H1 at hp1 hD1 e1
    refine ⟨p, _, rfl, SqL.of hp1, for_it (walk_enum (xs := (linesOf z).map V.str)) (fun i σ H3 => ∃ a b c acc sts, σ = [some (.str z), some (.ref D), a, b, c] ∧ Ext H H3 ∧ H3 p = some (.lst ((linesOf z).map V.str)) ∧ H3 D = some (.lst acc) ∧
        All2 (Stp C (fun b => b ≠ D ∧ H b = none) H3) acc sts ∧ All2 (fun l st => pSt l = some st) ((linesOf z).take i) sts ∧ i ≤ 100) ?_ ?_ ?_ ?_⟩
    · exact ⟨_, _, _, [], [], rfl, e1, hp1, hD1, .nil, .nil, Nat.zero_le _⟩
    · rintro i σ H3 hi ⟨a, b, c, acc, sts, rfl, e3, hp3, _⟩
      exact SqL.of hp3
    · rintro i v σ H3 H4 hi ⟨a, b, c, acc, sts, rfl, e3, hp3, hD3, hA, hS, hi100⟩ ⟨T, x, y, rfl, hT, rfl, ex, hy⟩
      cases ex
      obtain ⟨l, rfl, hl⟩ := map_get hy
      have e4 : Ext H (upd H3 T (.tup [.int (i : Nat), .str l])) := e3.upd' hT
      have hp4 := (Ext.upd (o := HO.tup [.int (i : Nat), .str l]) hT) _ _ hp3
      have hD4 := (Ext.upd (o := HO.tup [.int (i : Nat), .str l]) hT) _ _ hD3
      have hA4 := hA.imp fun x y (o : Stp C (fun b => b ≠ D ∧ H b = none) H3 x y) => o.ext (Ext.upd (o := HO.tup [.int (i : Nat), .str l]) hT)
      have hT4 : upd H3 T (.tup [.int (i : Nat), .str l]) T = some (.tup [.int (i : Nat), .str l]) := upd_same
      generalize upd H3 T (.tup [.int (i : Nat), .str l]) = H4 at e4 hp4 hD4 hA4 hT4
      have hll : l.length ≤ 1000000 := by
        have hm : l ∈ linesOf z := List.mem_of_getElem? hl
        unfold linesOf at hm
        split at hm
        · cases hm
        · exact Nat.le_trans (part_short hm) (by omega)
      have ret : ∀ H5, Ext H H5 → (pSt l = none ∨ i = 100) → [V.str "line", V.int (i : Nat)].length ≤ sizeLine ∧ ∀ q, H5 q = none → Q (.ref q) (upd H5 q (.lst [.str "line", .int (i : Nat)])) := fun H5 e5 hb => by
        refine ⟨by show 2 ≤ sizeLine; decide, fun q hq => ?_⟩
        have hpl : pLines 0 (linesOf z) = .inl i := by
          have q := pl_bad (k := 0) hS hl (by
            rcases hb with hb | hb
            · rcases Nat.lt_or_ge i 100 with h | h
              · exact .inr ⟨by omega, hb⟩
              · exact .inl (by omega)
            · exact .inl (by omega))
          rw [q, Nat.zero_add]
        exact hQ1 i hpl q _ (ext_none e5 hq) (e5.upd' hq) upd_same
      refine ⟨T, _, rfl, SqT.of hT4, rfl, _, _, rfl, _, _, rfl, rfl, ?_⟩
      refine ⟨_, rfl, l, rfl, hll, fun st hst v H5 e5 ho => ?_, fun hn H5 e5 => ?_⟩
      case refine_2 =>
        exact ⟨_, rfl, rfl, _, rfl, iteT (iteT ⟨_, rfl, ret H5 (e4.trans e5) (.inl hn)⟩)⟩
      have e45 := e4.trans e5
      obtain ⟨pv', os', rfl, _⟩ := id ho
      refine ⟨_, rfl, rfl, _, rfl, iteF ⟨_, rfl, rfl, _, rfl, iteB (fun h100 => ?_) (fun h100 => ?_)⟩⟩
      · have hi2 : i = 100 := by
          have q := of_decide_eq_true h100
          injection q with q
          omega
        exact ⟨_, rfl, ret H5 e45 (.inr hi2)⟩
      · have hi2 : i < 100 := by
          have q := of_decide_eq_false h100
          have q2 : i ≠ 100 := fun q3 => q (by rw [q3]; rfl)
          omega
        have hal : acc.length ≤ 100 := by
          have q := hS.1
          rw [List.length_take] at q
          have q2 := hA.1
          omega
        have hD5 := e5 _ _ hD4
        have k5 : KpB D H4 (upd H5 D (.lst (acc ++ [.ref pv']))) := (KpB.of e5).trans .at
        refine ⟨_, rfl, .inl ⟨rfl, _, SqL.of hD5⟩, _, rfl, D, acc, .ref pv', rfl, rfl, hD5, by omega, _, _, _, acc ++ [.ref pv'], sts ++ [st], rfl, ext_set e45 hD, ?_, upd_same, ?_, ?_, hi2⟩
        · exact k5 _ _ hpD.symm hp4
        · refine All2.snoc (hA4.imp fun x y o => o.mono (fun b q => q) fun b u q h _ => k5 b u q.1 h) (ho.mono (fun b hb => ⟨fun q => ?_, ext_none e4 hb⟩) fun b u hb h _ => ?_)
          · rw [q, hD4] at hb; cases hb
          · have hbD : b ≠ D := fun q => by rw [q, hD4] at hb; cases hb
            rw [upd_ne hbD]
            exact h
        · have ht : (linesOf z).take (i + 1) = (linesOf z).take i ++ [l] := by rw [List.take_add_one, hl]; rfl
          rw [ht]
          exact hS.snoc hst
    · rintro σ H3 ⟨a, b, c, acc, sts, rfl, e3, hp3, hD3, hA, hS, hi100⟩
      rw [List.length_map, List.take_length] at hS
      rw [List.length_map] at hi100
      refine ⟨_, rfl, by show 2 ≤ sizeLine; decide, fun q hq => ?_⟩
      exact hQ2 sts (pl_ok hS (by omega)) q D acc _ (ext_none e3 hq) hD (e3.upd' hq) upd_same ((Ext.upd hq) _ _ hD3) (hA.imp fun x y o => (o.ext (Ext.upd hq)).any)
end
end S78
/-! G7: bent. -/
namespace S78
open PySem PySem.Spec PyProof.Rows L2 SN
abbrev sBent : Stmt := top 44
theorem scBent : FnScope ["box", "text", "way", "at", "sign", "words", "some"] ["box", "text"] (defScope sBent) := ⟨rfl, rfl, rfl, by decide +kernel, rfl, by decide +kernel, by decide +kernel⟩
section
variable {P : Program} {w : World} {K : PySem.W.Frag} {mg : Str → Option Value} {base : Heap} {f : Addr} {fd : FuncData} {C : Addr}
theorem cutV_hi {ws : List Str} {d : Int} (h : 0 ≤ d) : cutV (ws.map V.str) none (some d) = (ws.take d.toNat).map V.str := by
  unfold cutV HT.sIx
  have h0 : ¬ (d < 0) := by omega
  simp only [h0, if_false, List.drop_zero, Nat.sub_zero, List.length_map]
  rw [List.map_take]
  rcases Nat.le_total d.toNat ws.length with q | q
  · rw [Nat.min_eq_left q]
  · rw [Nat.min_eq_right q, List.take_of_length_le (by rw [List.length_map]; exact Nat.le_refl _), List.take_of_length_le (by rw [List.length_map]; exact q)]
theorem cutV_lo {ws : List Str} {d : Int} (h : 0 ≤ d) : cutV (ws.map V.str) (some d) none = (ws.drop d.toNat).map V.str := by
  unfold cutV HT.sIx
  have h0 : ¬ (d < 0) := by omega
  simp only [h0, if_false, List.length_map]
  rw [List.map_drop]
  rcases Nat.le_total d.toNat ws.length with q | q
  · rw [Nat.min_eq_left q, List.take_of_length_le (by rw [List.length_drop, List.length_map]; exact Nat.le_refl _)]
  · rw [Nat.min_eq_right q, List.drop_of_length_le (by rw [List.length_map]; exact Nat.le_refl _), List.drop_of_length_le (by rw [List.length_map]; exact q)]
    simp
theorem cutS_le (z : Str) (lo hi : Option Int) : (cutS z lo hi).length ≤ z.length := by
  exact cutS_length z lo hi
theorem atI_of {α : Type} {xs : List α} {d : Int} (h0 : 0 ≤ d) (h1 : d < xs.length) : ∃ c, atI xs d = some c ∧ xs[d.toNat]? = some c := by
  have hl : d.toNat < xs.length := by omega
  refine ⟨xs[d.toNat], ?_, List.getElem?_eq_getElem hl⟩
  unfold atI ixN
  rw [if_pos h0, if_pos h1]
  show xs[d.toNat]? = _
  exact List.getElem?_eq_getElem hl
theorem join_le {ws : List Str} {y : Str} : (Txt.join y ws).length ≤ (ws.map (·.length)).sum + ws.length * y.length := by
  rw [TL.join_eq]
  exact StrLaws.join_length_le y ws
theorem sum_app (a b : List Str) : ((a ++ b).map (·.length)).sum = (a.map (·.length)).sum + (b.map (·.length)).sum := by
  rw [List.map_append, List.sum_append]
def spBent : Sp := fun vs H Q _ => ∃ (b : Addr) (z : Str) (n : Nat), vs = [.ref b, .str z] ∧ z.length ≤ 20000 ∧ BoxOk H b (5 + n) ∧ ∀ (z' : Str) H', z'.length ≤ 3 * z.length + 10 → KpB b H H' → BoxOk H' b n → Q (.str z') H'
theorem ok_bent (F : FnP K "_law_bent" sBent f fd) (T : Fre mg) (GT : Cl P w K mg base CX0 1 "_law_take" spTake []) : FnOk P w K mg base CX0 2 f fd ["box", "text"] spBent := by
  refine F.ok scBent (fun vs H Q E h => by obtain ⟨b, z, n, rfl, _⟩ := h; rfl) (fun cdv A outer s H vs Q E hr h => ?_)
  obtain ⟨b, z, n, rfl, hz, hb, hQ⟩ := h
  refine ⟨_, PSs.nox (pss_cons (ps_par (i := 2) (j := 3) rfl scBent.nd rfl rfl (by decide) rfl rfl (pa_cons (pe_cl GT hr (by decide) rfl pass0 (pa_cons (pv 0) (pa_cons pe_int pa_nil))) (pa_cons (pe_cl GT hr (by decide) rfl pass0 (pa_cons (pv 0) (pa_cons (pe_op op_add (pe_callB call_len_str rfl T.len boot_len (pa_cons (pv 1) pa_nil)) pe_int) pa_nil))) pa_nil)) rfl)
    (pss_cons (ps_set (i := 4) scBent.nd rfl (Or.inl rfl) (pe_ix ix_str pe_str (pe_cl GT hr (by decide) rfl pass0 (pa_cons (pv 0) (pa_cons pe_int pa_nil))) (fun _ _ => rfl)))
    (pss_cons (ps_if (pt_cmpR op_eq (pv 2) pe_int rfl) (pss_one (ps_ret (pe_op op_add_str (pe_op op_add_str (pe_slice sl_str (pv 1) po_none (po_some (pv 3))) (pv 4)) (pe_slice sl_str (pv 1) (po_some (pv 3)) po_none)))) pss_nil)
    (pss_cons (ps_if (pt_cmpR op_eq (pv 2) pe_int rfl) (pss_one (ps_ret (pe_op op_add_str (pe_slice sl_str (pv 1) po_none (po_some (pv 3))) (pe_slice sl_str (pv 1) (po_some (pe_op op_add (pv 3) pe_int)) po_none)))) pss_nil)
    (pss_cons (ps_if (pt_cmpR op_eq (pv 2) pe_int rfl) (pss_one (ps_ret (pe_op op_add_str (pe_op op_add_str (pe_slice sl_str (pv 1) po_none (po_some (pv 3))) (pv 4)) (pe_slice sl_str (pv 1) (po_some (pe_op op_add (pv 3) pe_int)) po_none)))) pss_nil)
    (pss_cons (ps_set (i := 5) scBent.nd rfl (Or.inl rfl) (pe_split (pv 1) pe_str))
    (pss_cons (ps_set (i := 3) scBent.nd rfl (Or.inl rfl) (pe_cl GT hr (by decide) rfl pass0 (pa_cons (pv 0) (pa_cons (pe_callB call_len_seq rfl T.len boot_len (pa_cons (pv 5) pa_nil)) pa_nil))))
    (pss_cons (ps_if (pt_cmpR op_eq (pv 2) pe_int rfl) (pss_one (ps_ret (pe_join pe_str (pe_op op_cat (pe_op op_cat (pe_slice sl_list (pv 5) po_none (po_some (pv 3))) (pe_lst (pa_cons (pe_ix ix_list (pv 5) (pv 3) (fun _ _ => rfl)) pa_nil))) (pe_slice sl_list (pv 5) (po_some (pv 3)) po_none))))) pss_nil)
    (pss_cons (ps_set (i := 6) scBent.nd rfl (Or.inl rfl) (pe_lst (pa_cons (pe_join pe_str (pe_op op_cat (pe_slice sl_list (pv 5) po_none (po_some (pv 3))) (pe_slice sl_list (pv 5) (po_some (pe_op op_add (pv 3) pe_int)) po_none))) (pa_cons (pe_op op_add_str (pv 1) pe_str) (pa_cons (pe_op op_add_str pe_str (pv 1)) (pa_cons (pv 1) pa_nil))))))
    (pss_one (ps_ret (pe_ifExp (pt_cmpR op_eq (pv 2) pe_int rfl) (pe_ix ix_list (pv 6) (pe_cl GT hr (by decide) rfl pass0 (pa_cons (pv 0) (pa_cons pe_int pa_nil))) (fun _ _ => rfl)) (pv 1))))))))))))), ?_⟩
  have hsz : (60100 : Nat) ≤ sizeLine := by decide
  have cl : ∀ lo hi, (cutS z lo hi).length ≤ z.length := cutS_le z
  refine ⟨_, rfl, b, 6, 4 + n, rfl, by decide, by decide, hb.mono (by omega), fun way H1 hw0 hw1 k1 hb1 => ⟨_, rfl, _, rfl, z, rfl, by omega, _, _, rfl, rfl, b, _, 3 + n, rfl, by omega, by omega, hb1.mono (by omega), fun at_ H2 ha0 ha1 k2 hb2 => ⟨_, _, rfl, ?_⟩⟩⟩
  refine ⟨_, rfl, b, 10, 2 + n, rfl, by decide, by decide, hb2.mono (by omega), fun d H3 hd0 hd1 k3 hb3 => ?_⟩
  have hlit : (Str.ofString " \n>aA:=-+z").cps.toList.length = 10 := by decide +kernel
  obtain ⟨c, hc, _⟩ := atI_of (xs := (Str.ofString " \n>aA:=-+z").cps.toList) hd0 (by rw [hlit]; exact hd1)
  refine ⟨_, d, c, rfl, rfl, by decide +kernel, hc, ?_⟩
  have sl : (⟨#[c]⟩ : Str).length = 1 := rfl
  have kk : KpB b H H3 := (k1.trans k2).trans k3
  refine ⟨_, rfl, rfl, _, rfl, iteB (fun w0 => ?_) (fun w0 => ?_)⟩
  · have c1 := cl none (some at_)
    have c2 := cl (some at_) none
    refine ⟨_, rfl, _, rfl, _, rfl, z, rfl, by omega, _, rfl, _, _, rfl, rfl, by omega, _, rfl, _, rfl, _, rfl, z, rfl, by omega, _, _, rfl, rfl, ?_, hQ _ _ ?_ kk (hb3.mono (by omega))⟩
    · rw [strLen_append]; omega
    · rw [strLen_append, strLen_append]; omega
  refine ⟨_, rfl, rfl, _, rfl, iteB (fun w1 => ?_) (fun w1 => ?_)⟩
  · have c1 := cl none (some at_)
    have c2 := cl (some (at_ + 1)) none
    refine ⟨_, rfl, _, rfl, _, rfl, z, rfl, by omega, _, rfl, _, rfl, _, _, rfl, rfl, _, rfl, z, rfl, by omega, _, _, rfl, rfl, by omega, hQ _ _ ?_ kk (hb3.mono (by omega))⟩
    rw [strLen_append]; omega
  refine ⟨_, rfl, rfl, _, rfl, iteB (fun w2 => ?_) (fun w2 => ?_)⟩
  · have c1 := cl none (some at_)
    have c2 := cl (some (at_ + 1)) none
    refine ⟨_, rfl, _, rfl, _, rfl, z, rfl, by omega, _, rfl, _, _, rfl, rfl, by omega, _, rfl, _, rfl, _, _, rfl, rfl, _, rfl, z, rfl, by omega, _, _, rfl, rfl, ?_, hQ _ _ ?_ kk (hb3.mono (by omega))⟩
    · rw [strLen_append]; omega
    · rw [strLen_append, strLen_append]; omega
  have hwt := split_weight z " " (by decide)
  have hpos := split_pos z " "
  have hle := split_le z " "
  have hps : ∀ u ∈ Txt.split z " ", u.length ≤ z.length := fun u hu => part_short hu
  refine ⟨_, rfl, ⟨_, rfl⟩, z, " ", rfl, rfl, by decide, by omega, fun p hp => ?_⟩
  generalize Txt.split z " " = ws at hwt hpos hle hps
  have hpb : p ≠ b := hb3.dom hp
  have h4 : upd H3 p (.lst (ws.map V.str)) p = some (.lst (ws.map V.str)) := upd_same
  have e4 : Ext H3 (upd H3 p (.lst (ws.map V.str))) := Ext.upd hp
  have hb4 := hb3.ext e4
  generalize upd H3 p (.lst (ws.map V.str)) = H4 at h4 e4 hb4
  refine ⟨_, rfl, _, rfl, p, _, rfl, .inl (SqL.of h4), b, _, 1 + n, rfl, ?_, ?_, hb4.mono (by omega), fun k H5 hk0 hk1 k5 hb5 => ?_⟩
  · rw [List.length_map]; omega
  · rw [List.length_map]; omega
  rw [List.length_map] at hk1
  have h5 : H5 p = some (.lst (ws.map V.str)) := k5 _ _ hpb h4
  have kk5 : KpB b H H5 := (kk.trans (KpB.of e4)).trans k5
  have es1 : Str.length " " = 1 := by decide
  have hsplit : (ws.take k.toNat ++ ws.drop k.toNat) = ws := List.take_append_drop _ _
  have hsum : ((ws.take k.toNat).map (·.length)).sum + ((ws.drop k.toNat).map (·.length)).sum = (ws.map (·.length)).sum := by rw [← sum_app, hsplit]
  refine ⟨_, rfl, rfl, _, rfl, iteB (fun w3 => ?_) (fun w3 => ?_)⟩
  · obtain ⟨v, hv, hv2⟩ := atI_of (xs := ws.map V.str) hk0 (by rw [List.length_map]; exact hk1)
    obtain ⟨u, rfl, hu⟩ := map_get hv2
    have hul := hps u (List.mem_of_getElem? hu)
    refine ⟨⟨_, rfl⟩, _, rfl, _, rfl, _, rfl, p, _, rfl, SqL.of h5, fun q1 hq1 => ?_⟩
    rw [cutV_hi hk0]
    have f1 := Ext.upd (o := HO.lst ((ws.take k.toNat).map V.str)) hq1
    refine ⟨_, rfl, _, rfl, p, _, k, .str u, rfl, rfl, SqL.of (f1 _ _ h5), hv, by show 1 ≤ sizeLine; decide, fun q2 hq2 => ⟨q1, q2, _, _, rfl, rfl, (Ext.upd hq2) _ _ upd_same, upd_same, ?_, fun q3 hq3 => ?_⟩⟩
    · rw [List.length_map, List.length_take]; show _ + 1 ≤ _; omega
    have f2 := f1.upd' (o := HO.lst [.str u]) hq2
    have f3 := f2.upd' (o := HO.lst ((ws.take k.toNat).map V.str ++ [.str u])) hq3
    refine ⟨_, rfl, _, rfl, _, rfl, p, _, rfl, SqL.of (f3 _ _ h5), fun q4 hq4 => ?_⟩
    rw [cutV_lo hk0]
    have f4 := f3.upd' (o := HO.lst ((ws.drop k.toNat).map V.str)) hq4
    refine ⟨q3, q4, _, _, rfl, rfl, (Ext.upd hq4) _ _ upd_same, upd_same, ?_, fun q5 hq5 => ?_⟩
    · rw [List.length_append, List.length_map, List.length_map, List.length_take, List.length_drop]; show _ + 1 + _ ≤ _; omega
    have f5 := f4.upd' (o := HO.lst ((ws.take k.toNat).map V.str ++ [.str u] ++ (ws.drop k.toNat).map V.str)) hq5
    have hsm : ((ws.take k.toNat ++ [u] ++ ws.drop k.toNat).map (·.length)).sum + (ws.take k.toNat ++ [u] ++ ws.drop k.toNat).length * Str.length " " ≤ 2 * z.length + 5 := by
      rw [sum_app, sum_app, es1]
      simp only [List.length_append, List.length_take, List.length_drop, List.map_cons, List.map_nil, List.sum_cons, List.sum_nil, List.length_cons, List.length_nil]
      omega
    refine ⟨_, q5, ws.take k.toNat ++ [u] ++ ws.drop k.toNat, rfl, rfl, .inl (SqL.of (by rw [upd_same, List.map_append, List.map_append]; rfl)), by omega, hQ _ _ ?_ (kk5.trans (KpB.of f5)) ((hb5.ext f5).mono (by omega))⟩
    exact Nat.le_trans join_le (by omega)
  · refine ⟨⟨_, rfl⟩, _, rfl, _, rfl, _, rfl, p, _, rfl, SqL.of h5, fun q1 hq1 => ?_⟩
    rw [cutV_hi hk0]
    have f1 := Ext.upd (o := HO.lst ((ws.take k.toNat).map V.str)) hq1
    refine ⟨_, rfl, _, rfl, _, _, rfl, rfl, _, rfl, p, _, rfl, SqL.of (f1 _ _ h5), fun q2 hq2 => ?_⟩
    rw [cutV_lo (show 0 ≤ k + 1 by omega)]
    have f2 := f1.upd' (o := HO.lst ((ws.drop (k + 1).toNat).map V.str)) hq2
    refine ⟨q1, q2, _, _, rfl, rfl, (Ext.upd hq2) _ _ upd_same, upd_same, ?_, fun q3 hq3 => ?_⟩
    · rw [List.length_map, List.length_map, List.length_take, List.length_drop]; omega
    have f3 := f2.upd' (o := HO.lst ((ws.take k.toNat).map V.str ++ (ws.drop (k + 1).toNat).map V.str)) hq3
    have hd1 : ((ws.drop (k + 1).toNat).map (·.length)).sum ≤ (ws.map (·.length)).sum := by
      have q : (ws.take (k + 1).toNat ++ ws.drop (k + 1).toNat) = ws := List.take_append_drop _ _
      have q2 : ((ws.take (k + 1).toNat).map (·.length)).sum + ((ws.drop (k + 1).toNat).map (·.length)).sum = (ws.map (·.length)).sum := by rw [← sum_app, q]
      omega
    have hsm : ((ws.take k.toNat ++ ws.drop (k + 1).toNat).map (·.length)).sum + (ws.take k.toNat ++ ws.drop (k + 1).toNat).length * Str.length " " ≤ 3 * z.length + 8 := by
      rw [sum_app, es1]
      simp only [List.length_append, List.length_take, List.length_drop]
      omega
    have nlen : Str.length "\n" = 1 := by decide
    refine ⟨_, q3, ws.take k.toNat ++ ws.drop (k + 1).toNat, rfl, rfl, .inl (SqL.of (by rw [upd_same, List.map_append])), by omega, _, rfl, _, _, rfl, rfl, by omega, _, rfl, _, _, rfl, rfl, by omega, _, rfl, by show 4 ≤ sizeLine; decide, fun q4 hq4 => ?_⟩
    have f4 := f3.upd' (o := HO.lst [.str (Txt.join " " (ws.take k.toNat ++ ws.drop (k + 1).toNat)), .str (z ++ "\n"), .str ("\n" ++ z), .str z]) hq4
    refine ⟨_, rfl, rfl, _, rfl, iteB (fun w4 => ?_) (fun w4 => ?_)⟩
    · refine ⟨_, rfl, _, rfl, b, 4, n, rfl, by decide, by decide, (hb5.ext f4).mono (by omega), fun m H6 hm0 hm1 k6 hb6 => ?_⟩
      have hq4b : q4 ≠ b := (hb5.ext f3).dom hq4
      have h6 : H6 q4 = some (.lst [.str (Txt.join " " (ws.take k.toNat ++ ws.drop (k + 1).toNat)), .str (z ++ "\n"), .str ("\n" ++ z), .str z]) := k6 _ _ hq4b upd_same
      obtain ⟨v, hv, hv2⟩ := atI_of (xs := [V.str (Txt.join " " (ws.take k.toNat ++ ws.drop (k + 1).toNat)), .str (z ++ "\n"), .str ("\n" ++ z), .str z]) hm0 (by exact hm1)
      have k6' := (kk5.trans (KpB.of f4)).trans k6
      have fin : ∀ y : Str, y.length ≤ 3 * z.length + 10 → v = .str y → Q v H6 := fun y hy e => by rw [e]; exact hQ y H6 hy k6' hb6
      refine ⟨q4, _, m, v, rfl, rfl, SqL.of h6, hv, ?_⟩
      have hm4 : m.toNat = 0 ∨ m.toNat = 1 ∨ m.toNat = 2 ∨ m.toNat = 3 := by omega
      rcases hm4 with e | e | e | e
      · rw [e] at hv2
        exact fin _ (Nat.le_trans join_le (by omega)) (Option.some.inj hv2).symm
      · rw [e] at hv2
        exact fin (z ++ "\n") (by rw [strLen_append]; omega) (Option.some.inj hv2).symm
      · rw [e] at hv2
        exact fin ("\n" ++ z) (by rw [strLen_append]; omega) (Option.some.inj hv2).symm
      · rw [e] at hv2
        exact fin z (by omega) (Option.some.inj hv2).symm
    · exact ⟨_, rfl, hQ _ _ (by omega) (kk5.trans (KpB.of f4)) ((hb5.ext f4).mono (by omega))⟩
end
end S78
/-! G8: caught. -/
namespace S78
open PySem PySem.Spec PyProof.Rows L2 SN HotX L2H
abbrev sCaught : Stmt := top 41
theorem scCaught : FnScope ["ask", "e"] ["ask"] (defScope sCaught) := ⟨rfl, rfl, rfl, by decide +kernel, rfl, by decide +kernel, by decide +kernel⟩
theorem takes_len {X : Cx} {W : WX} (t : L2.Takes X W) : L2.Takes X (fun cls d σ H => σ.length = X.N.length → W cls d σ H) := fun u s' x => by
  refine t u s' ?_
  obtain ⟨a, B, sI, pins, σ, H, cls, d, e, I, h1, h2, h3, h4, h5, h6, h7⟩ := x
  exact ⟨a, B, sI, pins, σ, H, cls, d, e, I, h1, h2, h3, h4, h5, h6, h7 I.len⟩
/-- the classes that _law_caught knows -/
structure CtF (K : PySem.W.Frag) (mg : Str → Option Value) (IT IL IS : Addr) : Prop where
  gT : mg "InvalidText" = some (.ref IT)
  gL : mg "InvalidLine" = some (.ref IL)
  gS : mg "InvalidSteps" = some (.ref IS)
  tt : PySem.W.exmOne K (.ref IT) (.ref IT) = some true
  lt : PySem.W.exmOne K (.ref IL) (.ref IT) = some false
  ll : PySem.W.exmOne K (.ref IL) (.ref IL) = some true
  st : PySem.W.exmOne K (.ref IS) (.ref IT) = some false
  sl : PySem.W.exmOne K (.ref IS) (.ref IL) = some false
  ss : PySem.W.exmOne K (.ref IS) (.ref IS) = some true
  xT : XfC K IT
  xL : XfC K IL
  xS : XfC K IS
  nT : PySem.W.findIn K (.ref IT) "value" = some none
  nL : PySem.W.findIn K (.ref IL) "index" = some none
  nS : PySem.W.findIn K (.ref IS) "value" = some none
/-- what is caught of an exception -/
def ECaught (IT IL IS : Addr) (Q : VK) : XK := fun cls d H => ∃ (dd : Addr) (v : V), d = some dd ∧
  ((cls = .ref IT ∧ H dd = some (.xd [("value", v)]) ∧ ∀ p, H p = none → Q (.ref p) (upd H p (.lst [.str "text", v]))) ∨
   (cls = .ref IL ∧ H dd = some (.xd [("index", v)]) ∧ ∀ p, H p = none → Q (.ref p) (upd H p (.lst [.str "line", v]))) ∨
   (cls = .ref IS ∧ H dd = some (.xd [("value", v)]) ∧ ∀ p, H p = none → Q (.ref p) (upd H p (.lst [.str "steps", v]))))
def QTold (Q : VK) : VK := fun v H => [V.str "told", v].length ≤ sizeLine ∧ ∀ p, H p = none → Q (.ref p) (upd H p (.lst [.str "told", v]))
def TCaught (IT IL IS : Addr) : (XK → Hp → VK → Prop) → Hp → VK → Prop := fun tl H Q => tl (ECaught IT IL IS Q) H (QTold Q)
theorem caught_gives {X : Cx} {g : Addr} {cdg : Value} {q : Str} {IT IL IS : Addr} (Ct : CtF X.K X.mg IT IL IS) : LamX.GivesTo X ["ask", "e"] "_law_caught" (defScope sCaught) g cdg (defBody sCaught) "ask" q (TCaught IT IL IS) := by
  intro f c' s H Q tl act hc h
  have n2 : ∀ σ : L2.St, σ.length = 2 → ∀ a : Addr, (σ.set 1 (some (.ref a)))[1]? = some (some (V.ref a)) := fun σ hσ a => by
    rw [List.getElem?_set_self (by omega)]
  refine ⟨_, pss_one (XP.ps_try_mas (X := (cxOf C8.CX0 X.prog X.w X.K X.mg X.base ["ask", "e"] "_law_caught" (defScope sCaught) g cdg X.A X.stack s H C8.E0).nox) (n := "e") (i := 1)
      (l := [(.ref IT, fun a cls d => tRet (tLst (tCons (tC (.str "text")) (tCons (tXf a cls d IT "value" (tVar 1)) tNil)))), (.ref IL, fun a cls d => tRet (tLst (tCons (tC (.str "line")) (tCons (tXf a cls d IL "index" (tVar 1)) tNil)))), (.ref IS, fun a cls d => tRet (tLst (tCons (tC (.str "steps")) (tCons (tXf a cls d IS "value" (tVar 1)) tNil))))])
      (tb := fun W D σ H => ∃ Ech : XK, (∀ cls d σ' H', Ech cls d H' → σ'.length = 2 → W cls d σ' H') ∧ (tRet (tLst (tCons (tC (.str "told")) (tCons (fun σZ HZ Q => σZ[0]? = some (some (.ref f)) ∧ HZ c' = some (LamX.CodeO c' q) ∧ tl Ech HZ Q) tNil)))) D σ H)
      rfl rfl scCaught.nd rfl rfl (fun W pn xe tk => ?_) ?_), ?_⟩
  · refine ⟨fun pins s' σ H' D I h' => ?_⟩
    obtain ⟨Ech, hW, h1⟩ := h'
    exact (show PSs _ _ (tRet (tLst (tCons (tC (.str "told")) (tCons (fun σZ HZ Q => σZ[0]? = some (some (.ref f)) ∧ HZ c' = some (LamX.CodeO c' q) ∧ tl Ech HZ Q) tNil)))) from pss_one (ps_ret (pe_lst (pa_cons pe_str (pa_cons (by exact act _ pn xe Ech _ _ (takes_len tk) (fun cls d σ' H2 h2 hl => hW cls d σ' H2 h2 hl)) pa_nil))))).run pins s' σ H' D I h1
  · refine .cons ⟨rfl, by decide, .inl Ct.gT⟩ (fun a oe cls d pn hz hf => pss_one (ps_ret (pe_lst (pa_cons pe_str (pa_cons (pe_xf Ct.xT Ct.nT hz hf (pv 1)) pa_nil))))) (.cons ⟨rfl, by decide, .inl Ct.gL⟩ (fun a oe cls d pn hz hf => pss_one (ps_ret (pe_lst (pa_cons pe_str (pa_cons (pe_xf Ct.xL Ct.nL hz hf (pv 1)) pa_nil)))))
      (.cons ⟨rfl, by decide, .inl Ct.gS⟩ (fun a oe cls d pn hz hf => pss_one (ps_ret (pe_lst (pa_cons pe_str (pa_cons (pe_xf Ct.xS Ct.nS hz hf (pv 1)) pa_nil))))) .nil))
  · refine ⟨ECaught IT IL IS Q, fun cls d σ' H' hE hl => ?_, rfl, hc, ?_⟩
    · obtain ⟨dd, v, rfl, hE⟩ := hE
      rcases hE with ⟨rfl, hd, hQ⟩ | ⟨rfl, hd, hQ⟩ | ⟨rfl, hd, hQ⟩
      · refine ⟨true, Ct.tt, fun _ a ha => ⟨_, n2 σ' hl a, rfl, rfl, dd, _, v, rfl, hd, rfl, by show 2 ≤ sizeLine; decide, fun p hp => hQ p hp⟩, fun q => by cases q⟩
      · refine ⟨false, Ct.lt, fun q => (by cases q), fun _ => ⟨true, Ct.ll, fun _ a ha => ⟨_, n2 σ' hl a, rfl, rfl, dd, _, v, rfl, hd, rfl, by show 2 ≤ sizeLine; decide, fun p hp => hQ p hp⟩, fun q => by cases q⟩⟩
      · refine ⟨false, Ct.st, fun q => (by cases q), fun _ => ⟨false, Ct.sl, fun q => (by cases q), fun _ => ⟨true, Ct.ss, fun _ a ha => ⟨_, n2 σ' hl a, rfl, rfl, dd, _, v, rfl, hd, rfl, by show 2 ≤ sizeLine; decide, fun p hp => hQ p hp⟩, fun q => by cases q⟩⟩⟩
    · exact h
end S78
/-! H1: lambdas handed to _law_caught. -/
namespace S78
open PySem PySem.Spec PyProof.Rows L2 SN HotX L2H RP
/-- such a def, by its body; its code object is named -/
theorem fn_gc {CX : CXT} {P : Program} {w : World} {K : PySem.W.Frag} {mg : Str → Option Value} {base : Heap} {k : Nat} {f : Addr} {x qual : Str} {params : Arguments} {body : List Stmt} {scope : Scope} {dvs : List V} {kws : List (Str × V)} {fd : FuncData} {N ps : List Str} {G : List Code → List V → Hp → Prop} {sp : Sp}
    (F : FunD K x qual params body scope dvs kws f fd) (S : FnScope N ps scope) (len : ∀ vs H Q E, sp vs H Q E → vs.length = ps.length)
    (hbody : ∀ (A : Around) (g : List Code) (outer : List Env) (s : Shared) (H : Hp) (vs : List V) (Q : VK) (E : XK), A.guards = some g → G g vs H → Room k (A.deeper (envOfC qual scope s.heap.objs.size f fd.code)) → sp vs H Q E →
      ∃ t, PSs (cxOf CX P w K mg base N qual scope f fd.code A outer s H E) body t ∧ t { nx := fun _ H' => Q .non H', rt := Q } (L2.start N vs) H) :
    FnG P w K mg base CX (k + 1) f fd ps G sp := by
  obtain ⟨oc, od, dV, kV, doc, pm, an, cdv, ct, osl, rfl, lk, hcd, _, _⟩ := F.ex
  refine ⟨len, fun A g outer s H args us vs Q E hg hG hr e0 hb r hsp => ?_⟩
  have hl := len _ _ _ _ hsp
  have bsg : ∀ b o, base.get? b = some o → s.heap.get? b = some o := fun b o e => (e0.bs b o e).1
  have KX : K.In s.heap := e0.mod.kin.keeps bsg
  have lim : s.heap.NoLimit := e0.mod.nolimit.keeps bsg
  have hkind : ∀ y ∈ ps.zip us, scope.names.lookup y.1 = some .local ∨ (scope.names.lookup y.1 = some .cell ∧ ((cellsFrom (s.heap.objs.size + 1) scope.names []).lookup y.1).isSome = true) := fun ⟨n, v⟩ hy =>
    (S.par n (List.of_mem_zip hy).1).imp id fun q => ⟨q, PySem.W.cellsFrom_some _ _ _ (.inl q)⟩
  refine codeAny_call_function hr.depth (KX _ _ lk) rfl S.co S.gen rfl (PySem.W.codeRec_of KX hcd) (hb _ _ _ _ ?_)
  refine wpAny_newFunctionEnv_cells S.kind hkind fun env he s1 x => ?_
  subst he
  refine ⟨lim.keeps x.toInCall.keep, codeAny_func ?_⟩
  obtain ⟨t, ht, hq⟩ := hbody A g outer s H vs Q E hg hG (hr.deeper _) hsp
  have I : Inv (cxOf CX P w K mg base N qual scope f cdv A outer s H E) [] (L2.start N vs) H s1 := inv_start S hr.hd e0 hl r x
  refine wpAny_mono (ht.run [] s1 (L2.start N vs) H _ I hq) (fun fl s' hs => ?_) fun e s' hs => hs
  cases fl with
  | ret u =>
    obtain ⟨v, σ', H', J, rv, q⟩ := hs
    exact ⟨v, H', J.os, J.bare, J.base, J.hok, rv, q⟩
  | next =>
    obtain ⟨σ', H', J, q⟩ := hs
    exact ⟨V.non, H', J.os, J.bare, J.base, J.hok, rfl, q⟩
  | brk =>
    obtain ⟨_, _, _, q⟩ := hs
    exact False.elim q
  | cont =>
    obtain ⟨_, _, _, q⟩ := hs
    exact False.elim q
/-- _law_caught as it stands -/
structure CgF (K : PySem.W.Frag) (mg : Str → Option Value) : Prop where
  ex : ∃ (g : Addr) (fd : FuncData), FnP K "_law_caught" sCaught g fd ∧ mg "_law_caught" = some (.ref g) ∧ Binds K fd ["ask"] []
/-- the table of the def whose code object is cdv, whose lambdas bear q -/
structure Tb (T : List (Addr × Str)) (base : Heap) (mg : Str → Option Value) (cdv : Value) (q : Str) : Prop where
  ex : ∃ c P : Addr, cdv = .ref c ∧ LamX.TabB base mg c P ∧ (P, q) ∈ T ∧ ∀ p ∈ T, p.1 = P → p.2 = q
abbrev Gnil : List Code → List V → Hp → Prop := fun g _ _ => g = []
section
variable {X : Cx}
/-- what is read of _law_caught(lambda: e) -/
def tCgt (T : List (Addr × Str)) (IT IL IS : Addr) (t : XK → TE) : TE := LamX.tLam T (TCaught IT IL IS) t
theorem pe_caught {T : List (Addr × Str)} {IT IL IS : Addr} {k : Nat} {params : Arguments} {body : Expr} {scope : Scope} {t : XK → TE} {p lpos pos : Pos} (Cg : CgF X.K X.mg) (Ct : CtF X.K X.mg IT IL IS) (hT : Tb T X.base X.mg X.env.code (X.env.qual ++ "<lambda>")) (hr : Room (k + 2) X.A) (hg : Gl X "_law_caught") (L : LamX.LamS X.env.scope scope) (hdef : defaultsOf params X.env = ([], []))
    (hbind : ∀ (q : Str) (cl : List (Str × Addr)) (pm cv ctv : Value), bindArgs (PySem.W.kla_fn "<lambda>" q params body scope cl pm cv ctv) ⟨[], []⟩ = pure [])
    (hbody : ∀ (A : Around) (outer : List Env) (s : Shared) (H : Hp) (E : XK) (f c' : Addr), Room k (A.deeper (LamX.lamEnv X scope s.heap.objs.size f c')) → PE (LamX.lamCx X A outer s H E scope f c') body (t E)) :
    PE X (.Call (.Name "_law_caught" p) [.Lambda params body scope lpos] [] pos) (tCgt T IT IL IS t) := by
  obtain ⟨g, fd, F, hm, hb⟩ := Cg.ex
  obtain ⟨oc, od, dV, kV, doc, pm, an, cdv, ct, osl, rfl, lk, hcd, _, _⟩ := F.ex
  obtain ⟨c, P, e1, TB, hmT, hu⟩ := hT.ex
  exact LamX.pe_lamcall (Ng := ["ask", "e"]) hg hm F.kp lk hcd hb scCaught rfl (Or.inl rfl) (caught_gives Ct) TB e1 hmT hu hr L hdef hbind hbody
/-- what a call in a lambda's body lets out -/
theorem passL {A : Around} {outer : List Env} {s : Shared} {H : Hp} {E : XK} {scope : Scope} {f c' : Addr} : Passes (L2.CX X.prog X.w) (LamX.lamCx X A outer s H E scope f c') E :=
  L2.passes_call (X := LamX.lamCx X A outer s H E scope f c') (L2.takes_of rfl rfl rfl rfl) fun _ _ _ _ h => h
end
abbrev sTold : Stmt := top 46
theorem scTold : FnScope ["text"] ["text"] (defScope sTold) := ⟨rfl, rfl, rfl, by decide +kernel, rfl, by decide +kernel, by decide +kernel⟩
/-- all but the tables stay; what is new -/
def spTold (T : List (Addr × Str)) (C : Addr) : Sp := fun vs H Q _ => ∃ z : Str, vs = [.str z] ∧ z.length ≤ 1000000 ∧ LamX.Tabs T H ∧
  (∀ st, pSt z = some st → ∀ p v H', LamX.ExtN H H' → LamX.Tabs T H' → Stp C (fun _ => True) H' v st → H' p = some (.lst [.str "told", v]) → Q (.ref p) H') ∧
  (pSt z = none → ∀ p H', LamX.ExtN H H' → LamX.Tabs T H' → H' p = some (.lst [.str "text", .str z]) → Q (.ref p) H')
section
variable {P : Program} {w : World} {K : PySem.W.Frag} {mg : Str → Option Value} {base : Heap} {f : Addr} {fd : FuncData} {C IT IL IS : Addr} {T : List (Addr × Str)}
def lamQ (x : Str) (cdv : Value) : Str := (envOfC x (defScope sTold) 0 0 cdv).qual ++ "<lambda>"
theorem ok_told (F : FnP K "_law_step_told" sTold f fd) (Cg : CgF K mg) (Ct : CtF K mg IT IL IS) (hT : Tb T base mg fd.code (lamQ "_law_step_told" fd.code)) (GP : Cl P w K mg base (L2.CX P w) 6 "parse_step" (spPS C IT) []) : FnG P w K mg base CX0 9 f fd ["text"] Gnil (spTold T C) := by
  refine fn_gc F scTold (fun vs H Q E h => by obtain ⟨z, rfl, _⟩ := h; rfl) (fun A g outer s H vs Q E hg hG hr h => ?_)
  obtain ⟨z, rfl, hz, hTb, hQ1, hQ2⟩ := h
  refine ⟨_, PSs.nox (pss_one (ps_ret (pe_caught (k := 6) Cg Ct hT hr rfl (by exact LamX.lamS_by (show LamX.lamSB (defScope sTold) _ = true by decide +kernel)) rfl (fun _ _ _ _ _ => rfl)
    (fun A outer s H E f c' hr' => pe_cl (X := LamX.lamCx _ A outer s H E _ f c') GP hr' (by decide) rfl passL (pa_cons (pv 0) pa_nil))))), ?_⟩
  refine ⟨hTb, fun H1 e1 T1 => ⟨_, rfl, V.str z, rfl, .inl ⟨z, rfl, hz, fun st hst v H2 e2 hv => ⟨by show 2 ≤ sizeLine; decide, fun p hp => ?_⟩, fun hn d H2 e2 hd h2 => ⟨d, .str z, rfl, .inl ⟨rfl, h2, fun p hp => ?_⟩⟩⟩⟩⟩
  · have e3 : Ext H2 (upd H2 p (.lst [.str "told", v])) := Ext.upd hp
    exact hQ1 st hst p v _ (e1.trans (LamX.ExtN.of (e2.trans e3))) (T1.ext (e2.trans e3)) ((hv.mono (fun _ _ => True.intro) fun b u _ h _ => h).ext e3) upd_same
  · have e3 : Ext H2 (upd H2 p (.lst [.str "text", .str z])) := Ext.upd hp
    exact hQ2 hn p _ (e1.trans (LamX.ExtN.of (e2.trans e3))) (T1.ext (e2.trans e3)) upd_same
end
end S78
/-! H2: == of steps; comprehensions that change the box. -/
namespace S78
open PySem PySem.Spec PyProof.Rows L2 SN HotX L2H RP
/-- all but the box and the tables is kept -/
def KpT (b : Addr) (H H' : Hp) : Prop := ∀ a o, a ≠ b → (∀ ps, o ≠ .tbl ps) → H a = some o → H' a = some o
theorem KpT.rfl' {b : Addr} {H : Hp} : KpT b H H := fun _ _ _ _ h => h
theorem KpT.trans {b : Addr} {H H1 H2 : Hp} (a : KpT b H H1) (c : KpT b H1 H2) : KpT b H H2 := fun x o n t h => c x o n t (a x o n t h)
theorem KpT.of {b : Addr} {H H' : Hp} (e : Ext H H') : KpT b H H' := fun a o _ _ h => e a o h
theorem KpT.kp {b : Addr} {H H' : Hp} (e : KpB b H H') : KpT b H H' := fun a o n _ h => e a o n h
theorem KpT.n {b : Addr} {H H' : Hp} (e : LamX.ExtN H H') : KpT b H H' := fun a o _ t h => e a o h t
theorem lst_nt {xs : List V} : ∀ ps, HO.lst xs ≠ .tbl ps := fun ps z => by cases z
theorem tup_nt {xs : List V} : ∀ ps, HO.tup xs ≠ .tbl ps := fun ps z => by cases z
theorem BoxOk.n {H H' : Hp} {b : Addr} {n : Nat} (h : BoxOk H b n) (e : LamX.ExtN H H') : BoxOk H' b n := by
  obtain ⟨x, y, z, h1, h2⟩ := h
  exact ⟨x, y, z, e _ _ h1 lst_nt, h2⟩
theorem tabs_kpb {T : List (Addr × Str)} {b : Addr} {n : Nat} {H H' : Hp} (t : LamX.Tabs T H) (hb : BoxOk H b n) (k : KpB b H H') : LamX.Tabs T H' := fun p hp => by
  obtain ⟨x, y, z, h1, _⟩ := hb
  obtain ⟨ps, e1, e2, e3⟩ := t p hp
  refine ⟨ps, k _ _ (fun q => by rw [q, h1] at e1; cases e1) e1, e2, fun pos cv hc => ?_⟩
  obtain ⟨c, e4, e5⟩ := e3 pos cv hc
  exact ⟨c, e4, k _ _ (fun q => by rw [q, h1] at e5; unfold LamX.CodeO at e5; cases e5) e5⟩
/-- an object of the law's own, written -/
theorem tabs_set {T : List (Addr × Str)} {a : Addr} {xs : List V} {o : HO} {H : Hp} (t : LamX.Tabs T H) (ha : H a = some (.lst xs)) : LamX.Tabs T (upd H a o) := fun p hp => by
  obtain ⟨ps, e1, e2, e3⟩ := t p hp
  refine ⟨ps, by rw [upd_ne (fun q => by rw [q, ha] at e1; cases e1)]; exact e1, e2, fun pos cv hc => ?_⟩
  obtain ⟨c, e4, e5⟩ := e3 pos cv hc
  exact ⟨c, e4, by rw [upd_ne (fun q => by rw [q, ha] at e5; unfold LamX.CodeO at e5; cases e5)]; exact e5⟩
theorem BoxOk.set {H : Hp} {b a : Addr} {n : Nat} {o : HO} (h : BoxOk H b n) (hn : a ≠ b) : BoxOk (upd H a o) b n := by
  obtain ⟨x, y, z, h1, h2⟩ := h
  exact ⟨x, y, z, by rw [upd_ne hn.symm]; exact h1, h2⟩
/-! ### == of steps -/
structure EqF (P : Program) (w : World) (K : PySem.W.Frag) (mg : Str → Option Value) (base : Heap) (C : Addr) : Prop where
  ex : ∃ (fE : Addr) (fd : FuncData) (ps : List Str), FnOk P w K mg base CX0 2 fE fd ps (spEq (EqO C)) ∧ PySem.W.findIn K (.ref C) "__eq__" = some (some (.ref fE)) ∧ PySem.W.isFn K (.ref fE) = true ∧ Binds K fd ps []
def DSame : Eqv := fun x y _ => ∃ a, x = .ref a ∧ y = .ref a
theorem eqG_same {X : Cx} : EqG X 0 DSame := fun A pins s σ H x y u v sb I rx ry d => by
  obtain ⟨a, rfl, rfl⟩ := d
  cases rx
  cases ry
  exact SeqAt.EqAt.same (A := A) (s := s) (.ref a) X.prog X.w X.xe _ ⟨rfl, H, I, Ext.rfl'⟩
theorem mon_same : Mon DSame := fun _ _ _ _ _ d => d
def DOrd (C : Addr) : Eqv := fun x y H => DFlat x y H ∨ DIns C (EqO C) x y H
theorem mon_eqO {C : Addr} : ∀ a b H H', Ext H H' → EqO C a b H → EqO C a b H' := fun a b H H' e ⟨ws, h1, h2⟩ => ⟨ws, h1.ext e, h2.ext e⟩
theorem mon_ord {C : Addr} : Mon (DOrd C) := Mon.or mon_flat (mon_ins mon_eqO)
def DStp (K : PySem.W.Frag) (C : Addr) : Eqv := DTup K (DOrd C)
theorem mon_stp {K : PySem.W.Frag} {C : Addr} : Mon (DStp K C) := mon_tup mon_ord
def DVal (K : PySem.W.Frag) (C : Addr) : Eqv := fun x y H => (DFlat x y H ∨ DSame x y H) ∨ DStp K C x y H
theorem mon_val {K : PySem.W.Frag} {C : Addr} : Mon (DVal K C) := Mon.or (Mon.or mon_flat mon_same) mon_stp
def DItem (K : PySem.W.Frag) (C : Addr) : Eqv := fun x y H => DVal K C x y H ∨ DList (DVal K C) x y H
theorem mon_item {K : PySem.W.Frag} {C : Addr} : Mon (DItem K C) := Mon.or mon_val (mon_list mon_val)
section
variable {X : Cx} {C : Addr}
theorem eqG_ord (q : EqF X.prog X.w X.K X.mg X.base C) : EqG X 2 (DOrd C) := by
  obtain ⟨fE, fd, ps, F, h1, h2, h3⟩ := q.ex
  exact EqG.or (eqG_flat.mono (by decide)) (eqG_ins F h1 h2 h3 pass0)
theorem eqG_stp (q : EqF X.prog X.w X.K X.mg X.base C) : EqG X 3 (DStp X.K C) := eqG_tup mon_ord (eqG_ord q)
theorem eqG_val (q : EqF X.prog X.w X.K X.mg X.base C) : EqG X 3 (DVal X.K C) := EqG.or ((EqG.or eqG_flat eqG_same).mono (by decide)) (eqG_stp q)
theorem eqG_item (q : EqF X.prog X.w X.K X.mg X.base C) : EqG X 4 (DItem X.K C) := EqG.or ((eqG_val q).mono (by decide)) (eqG_list mon_val (eqG_val q))
end
theorem all2_get {α : Type} {R : V → α → Prop} {xs : List V} {ys : List α} (h : All2 R xs ys) {i : Nat} {x : V} (hx : xs[i]? = some x) : ∃ y, ys[i]? = some y ∧ R x y := by
  have hi : i < ys.length := by
    rw [← h.1]
    rcases Nat.lt_or_ge i xs.length with q | q
    · exact q
    · rw [List.getElem?_eq_none q] at hx; cases hx
  exact ⟨ys[i], List.getElem?_eq_getElem hi, h.2 i x ys[i] hx (List.getElem?_eq_getElem hi)⟩
theorem all2_get' {α : Type} {R : V → α → Prop} {xs : List V} {ys : List α} (h : All2 R xs ys) {i : Nat} {y : α} (hy : ys[i]? = some y) : ∃ x, xs[i]? = some x ∧ R x y := by
  have hi : i < xs.length := by
    rw [h.1]
    rcases Nat.lt_or_ge i ys.length with q | q
    · exact q
    · rw [List.getElem?_eq_none q] at hy; cases hy
  exact ⟨xs[i], List.getElem?_eq_getElem hi, h.2 i xs[i] y (List.getElem?_eq_getElem hi) hy⟩
theorem stp_eq {K : PySem.W.Frag} {C : Addr} {S S' : Addr → Prop} {H : Hp} {x y : V} {st : Str × List (List Str)} (h : Stp C S H x st) (h' : Stp C S' H y st) : DStp K C x y H := by
  obtain ⟨p, os, rfl, _, h1, h2⟩ := h
  obtain ⟨p', os', rfl, _, h3, h4⟩ := h'
  refine ⟨p, p', _, _, rfl, rfl, SqT.of h1, SqT.of h3, .cons (.inl ⟨rfl, rfl, by show (st.1 == st.1) = true; simp⟩) ⟨h2.1.trans h4.1.symm, fun i a b ha hb => ?_⟩⟩
  obtain ⟨ws, hw, oa⟩ := all2_get h2 ha
  obtain ⟨ws', hw', ob⟩ := all2_get h4 hb
  rw [hw] at hw'
  cases hw'
  obtain ⟨c, rfl, oc⟩ := oa
  obtain ⟨d, rfl, od⟩ := ob
  obtain ⟨dx, l, _, _, z1, z2⟩ := id oc
  obtain ⟨dy, m, _, _, z3, z4⟩ := id od
  exact .inr ⟨c, d, dx, dy, _, _, rfl, rfl, z1, z3, ws, oc.any, od.any⟩
theorem stps_eq {K : PySem.W.Frag} {C : Addr} {S S' : Addr → Prop} {H : Hp} {xs ys : List V} {sts : List (Str × List (List Str))} (h : All2 (Stp C S H) xs sts) (h' : All2 (Stp C S' H) ys sts) : Prs (DVal K C) xs ys H := by
  refine ⟨h.1.trans h'.1.symm, fun i a b ha hb => ?_⟩
  obtain ⟨st, e1, o1⟩ := all2_get h ha
  obtain ⟨st', e2, o2⟩ := all2_get h' hb
  rw [e1] at e2
  cases e2
  exact .inr (stp_eq o1 o2)
theorem dstr {K : PySem.W.Frag} {C : Addr} {H : Hp} (z : Str) : DVal K C (.str z) (.str z) H := .inl (.inl ⟨rfl, rfl, by show (z == z) = true; simp⟩)
theorem dint {K : PySem.W.Frag} {C : Addr} {H : Hp} (z : Int) : DVal K C (.int z) (.int z) H := .inl (.inl ⟨rfl, rfl, by show (z == z) = true; simp⟩)
/-- [e for .. in range(n)]: each turn takes c of the box -/
theorem lc_box {J : It} {n : Nat} {ya : Nat → Hp → V → Hp → Prop} (wk : Walk J n (fun _ => True) ya) (hY : ∀ i H x H', ya i H x H' → H' = H) {te : TE} {j : Nat} {σ : L2.St} {H1 : Hp} {D b : Addr} {Qd : Hp → Prop} (c m : Nat) (R : V → Hp → Prop) (hD : H1 D = none) (hb : BoxOk H1 b (n * c + m)) (hz : n < sizeLine)
    (hmon : ∀ y H H', KpB b H H' → R y H → R y H') (hmon2 : ∀ y H o, H D ≠ none → R y H → R y (upd H D o))
    (hs : ∀ (k : Nat) (x : V) (H : Hp), KpB b H1 H → BoxOk H b (c + k) → (∃ acc, H D = some (.lst acc)) → ∀ Qe : VK, (∀ y H4, KpB b H H4 → BoxOk H4 b k → R y H4 → Qe y H4) → te ((wipe σ [j]).set j (some x)) H Qe)
    (hd : ∀ H ys, KpB b H1 H → BoxOk H b m → H D = some (.lst ys) → ys.length = n → (∀ y ∈ ys, R y H) → Qd H) :
    ∃ W : Nat → Nat → Hp → Prop, (∃ m, W 0 m (upd H1 D (.lst []))) ∧ ∀ i m H, W i m H →
      (J.stop i H ∧ Qd H) ∨ (J.go i H ∧ ∃ Nx : Hp → Prop, (∀ H', Nx H' → ∃ m', m' < m ∧ W (i + 1) m' H') ∧ ∀ x H', J.yld i H x H' → gName j x (wipe σ [j]) H' fun σ2 H2 => wipe σ2 [j] = wipe σ [j] ∧ tYes σ2 H2 fun b H3 =>
        if b = true then te σ2 H3 fun y H4 => ∃ acc, H4 D = some (.lst acc) ∧ acc.length < sizeLine ∧ Nx (upd H4 D (.lst (acc ++ [y]))) else Nx H3) := by
  have hDb : D ≠ b := hb.dom hD
  refine lc_it wk (fun i H => ∃ acc, KpB b H1 H ∧ BoxOk H b ((n - i) * c + m) ∧ H D = some (.lst acc) ∧ acc.length = i ∧ ∀ y ∈ acc, R y H) ?_ (fun _ _ _ _ => True.intro) ?_ ?_
  · refine ⟨[], kpb_set KpB.rfl' hD, hb.set hDb |>.mono (by simp), upd_same, rfl, fun y hy => by cases hy⟩
  · rintro i x H H' hi ⟨acc, k, hbx, hDa, hl, hR⟩ hy
    obtain rfl := hY _ _ _ _ hy
    refine ⟨set_wipe σ j x, ?_⟩
    dsimp only [tYes]
    rw [if_pos rfl]
    have e1 : (n - i) * c + m = c + ((n - (i + 1)) * c + m) := by
      have : n - i = (n - (i + 1)) + 1 := by omega
      rw [this, Nat.succ_mul]
      omega
    rw [e1] at hbx
    refine hs _ x H' k hbx ⟨acc, hDa⟩ _ fun y H4 k4 hb4 r => ⟨acc, k4 _ _ hDb hDa, by omega, acc ++ [y], kpb_set (k.trans k4) hD, hb4.set hDb, upd_same, by rw [List.length_append, hl]; rfl, fun z hz => ?_⟩
    have h4 : H4 D ≠ none := by rw [k4 _ _ hDb hDa]; simp
    rcases List.mem_append.mp hz with q | q
    · exact hmon2 z H4 _ h4 (hmon z H' H4 k4 (hR z q))
    · rw [List.mem_singleton.mp q]
      exact hmon2 y H4 _ h4 r
  · rintro H ⟨acc, k, hbx, hDa, hl, hR⟩
    exact hd H acc k (hbx.mono (by simp)) hDa hl hR
theorem all2_of {α : Type} {R : V → α → Prop} : ∀ {xs : List V}, (∀ x ∈ xs, ∃ y, R x y) → ∃ ys : List α, All2 R xs ys
  | [], _ => ⟨[], .nil⟩
  | x :: xs, h => by
    obtain ⟨y, hy⟩ := h x (List.mem_cons_self ..)
    obtain ⟨ys, hys⟩ := all2_of (xs := xs) fun z hz => h z (List.mem_cons_of_mem _ hz)
    exact ⟨y :: ys, hys.cons hy⟩
end S78
/-! H3: a hundred steps. -/
namespace S78
open PySem PySem.Spec PyProof.Rows L2 SN HotX L2H RP
abbrev sHund : Stmt := top 49
theorem scHund : FnScope ["box", "words", "steps", "lines", "found", "turn", "word"] ["box"] (defScope sHund) := ⟨rfl, rfl, rfl, by decide +kernel, rfl, by decide +kernel, by decide +kernel⟩
def lamQ' (x : Str) (cdv : Value) : Str := (envOfC x (defScope sHund) 0 0 cdv).qual ++ "<lambda>"
abbrev tJn (K : PySem.W.Frag) (ta tb : TE) : TE := tM1 (fun x xs H Q => ∃ a p, ∃ ys : List Str, x = .str a ∧ xs = [.ref p] ∧ (SqL K H p (ys.map V.str) ∨ SqT K H p (ys.map V.str)) ∧ (ys.map (·.length)).sum + ys.length * a.length ≤ 16777216 ∧ Q (.str (Txt.join a ys)) H) ta tb
def spHund (T : List (Addr × Str)) : Sp := fun vs H Q _ => ∃ (b : Addr) (n : Nat), vs = [.ref b] ∧ BoxOk H b (20 + n) ∧ LamX.Tabs T H ∧ ∀ H', KpT b H H' → BoxOk H' b n → LamX.Tabs T H' → Q (.bl true) H'
theorem stText_sum : ∀ {sts : List (Str × List (List Str))}, (∀ st ∈ sts, okSt st) → ((sts.map stText).map (·.length)).sum ≤ 102 * sts.length
  | [], _ => by simp
  | st :: sts, h => by
    have h1 := stText_len (h st (List.mem_cons_self ..))
    have h2 := stText_sum (sts := sts) fun z hz => h z (List.mem_cons_of_mem _ hz)
    simp only [List.map_cons, List.sum_cons, List.length_cons]
    omega
theorem steps_len {sts : List (Str × List (List Str))} (ok : ∀ st ∈ sts, okSt st) (hl : sts.length ≤ 101) : ((sts.map stText).map (·.length)).sum + (sts.map stText).length * (Str.length "\n") ≤ 10500 ∧ (Txt.join "\n" (sts.map stText)).length ≤ 10500 := by
  have h1 := stText_sum ok
  have e : Str.length "\n" = 1 := by decide
  have h2 : ((sts.map stText).map (·.length)).sum + (sts.map stText).length * (Str.length "\n") ≤ 10500 := by
    rw [e, List.length_map]
    omega
  exact ⟨h2, Nat.le_trans join_le h2⟩
theorem cut_1 {xs : List V} : cutV xs none (some (1 : Int)) = xs.take 1 := by
  unfold cutV HT.sIx
  cases xs with
  | nil => rfl
  | cons x xs => simp
theorem prs_same {K : PySem.W.Frag} {C : Addr} {H : Hp} {xs : List V} (h : ∀ x ∈ xs, ∃ a, x = .ref a) : Prs (DVal K C) xs xs H := ⟨rfl, fun i x y h1 h2 => by
  rw [h1] at h2
  cases h2
  obtain ⟨a, rfl⟩ := h x (List.mem_of_getElem? h1)
  exact .inl (.inr ⟨a, rfl, rfl⟩)⟩
section
variable {P : Program} {w : World} {K : PySem.W.Frag} {mg : Str → Option Value} {base : Heap} {f : Addr} {fd : FuncData} {C IT IL IS : Addr} {T : List (Addr × Str)}
theorem ok_hund (F : FnP K "_law_hundred_right" sHund f fd) (Tf : Fre mg) (Cg : CgF K mg) (Ct : CtF K mg IT IL IS) (hT : Tb T base mg fd.code (lamQ' "_law_hundred_right" fd.code)) (GT : Cl P w K mg base CX0 1 "_law_take" spTake []) (M : MkOr P w K mg base C) (q : EqF P w K mg base C)
    (GS : Cl P w K mg base (L2N.CX P w) 6 "steps_text" (spSS K C IS) []) (GS2 : Cl P w K mg base (L2.CX P w) 6 "steps_text" (spSS K C IS) []) (GX : Cl P w K mg base (L2.CX P w) 7 "parse_steps" (spPX C IT IL) []) : FnG P w K mg base CX0 10 f fd ["box"] Gnil (spHund T) := by
  refine fn_gc F scHund (fun vs H Q E h => by obtain ⟨b, n, rfl, _⟩ := h; rfl) (fun A g outer s H vs Q E hg hG hr h => ?_)
  obtain ⟨b, n, rfl, hb, hTb, hQ⟩ := h
  refine ⟨_, PSs.nox (pss_cons (ps_set (i := 1) scHund.nd rfl (Or.inl rfl) (pe_op op_rep (pe_lc (own := [("turn", 5)]) (g := gName 5) (tt := tYes) rfl scHund.nd (pi_range1 rfl Tf.range (pa_cons pe_int pa_nil)) (blkOk_by (N := ["box", "words", "steps", "lines", "found", "turn", "word"]) (sc := defScope sHund) (by decide +kernel))
        (fun _ _ _ _ _ => pg_name (i := 5) scHund.nd rfl (Or.inl rfl)) (fun _ _ _ _ _ => pts_nil) (fun _ _ _ _ _ => pe_ix (r := rIxL K) ix_list (pe_lst (pa_cons pe_str (pa_cons pe_str pa_nil))) (pe_cl GT hr (by decide) rfl pass0 (pa_cons (pv 0) (pa_cons pe_int pa_nil))) (fun _ _ => rfl))) pe_int))
    (pss_cons (ps_set (i := 2) scHund.nd rfl (Or.inr rfl) (pe_lc (own := [("word", 6)]) (g := gName 6) (tt := tYes) rfl scHund.nd (pi_list (pv 1)) (blkOk_by (N := ["box", "words", "steps", "lines", "found", "turn", "word"]) (sc := defScope sHund) (by decide +kernel))
        (fun _ _ _ _ _ => pg_name (i := 6) scHund.nd rfl (Or.inl rfl)) (fun _ _ _ _ _ => pts_nil) (fun _ _ _ _ _ => pe_tup (pa_cons (pv 6) (pa_cons (pe_order M hr (by decide) rfl (pe_lst (pa_cons pe_str pa_nil))) pa_nil)))))
    (pss_cons (ps_set (i := 3) scHund.nd rfl (Or.inr rfl) (pe_lc (own := [("word", 6)]) (g := gName 6) (tt := tYes) rfl scHund.nd (pi_list (pv 1)) (blkOk_by (N := ["box", "words", "steps", "lines", "found", "turn", "word"]) (sc := defScope sHund) (by decide +kernel))
        (fun _ _ _ _ _ => pg_name (i := 6) scHund.nd rfl (Or.inl rfl)) (fun _ _ _ _ _ => pts_nil) (fun _ _ _ _ _ => pe_op op_add_str (pv 6) pe_str)))
    (pss_cons (ps_if (PW.pt (pw_or (pt_cmpR op_ne (pe_cl GS hr (by decide) rfl passN0 (pa_cons (pv 2) pa_nil)) (pe_join pe_str (pv 3)) rfl)
        (pw_or1 (pt_cmpR (op_neList mon_val (eqG_val q) (hr.mono (by decide))) (pe_cl GX hr (by decide) rfl pass20 (pa_cons (pe_join pe_str (pv 3)) pa_nil)) (pv 2) rfl)))) (pss_one (ps_ret pe_bl)) pss_nil)
    (pss_cons (ps_set (i := 4) scHund.nd rfl (Or.inl rfl) (pe_lst (pa_cons (pe_caught (k := 7) (t := fun E => tCall (spPX C IT IL) [] E (tCons (tJn K (tC (.str "\n")) (tOp rCat (tVar 3) (tLst (tCons (tC (.str "drop a")) tNil)))) tNil)) Cg Ct hT hr rfl (by exact LamX.lamS_by (show LamX.lamSB (defScope sHund) _ = true by decide +kernel)) rfl (fun _ _ _ _ _ => rfl)
        (fun A outer s H E f c' hr' => pe_cl (X := LamX.lamCx _ A outer s H E _ f c') GX hr' (by decide) rfl passL (pa_cons (by exact pe_join pe_str (pe_op op_cat (pv 3) (pe_lst (pa_cons pe_str pa_nil)))) pa_nil))) pa_nil)))
    (pss_cons (ps_expr (pe_bm PySem.F.plainAttrs_list PySem.F.slot_list_append PySem.F.type_list_append mt_append (pv 4) (pa_cons (pe_caught (k := 7) (t := fun E => tCall (spSS K C IS) [] E (tCons (tOp rCat (tVar 2) (tSl (rSlL K) (tVar 2) tNoPart (tPart (tC (.int 1))))) tNil)) Cg Ct hT hr rfl (by exact LamX.lamS_by (show LamX.lamSB (defScope sHund) _ = true by decide +kernel)) rfl (fun _ _ _ _ _ => rfl)
        (fun A outer s H E f c' hr' => pe_cl (X := LamX.lamCx _ A outer s H E _ f c') GS2 hr' (by decide) rfl passL (pa_cons (by exact pe_op op_cat (pv 2) (pe_slice sl_list (pv 2) po_none (po_some pe_int))) pa_nil))) pa_nil)))
    (pss_one (ps_ret (pe_cmpR (op_eqG (rcG_list (mon_list mon_item) (eqG_list mon_item (eqG_item q))) (hr.mono (by decide))) (pv 4) (pe_lst (pa_cons (pe_lst (pa_cons pe_str (pa_cons pe_int pa_nil))) (pa_cons (pe_lst (pa_cons pe_str (pa_cons (pe_op op_cat (pv 2) (pe_slice sl_list (pv 2) po_none (po_some pe_int))) pa_nil))) pa_nil))) rfl))))))))), ?_⟩
  have hDb : ∀ {D}, H D = none → D ≠ b := fun h => hb.dom h
  refine ⟨20, rfl, by decide, by decide, fun D hD => lc_box (b := b) walk_range (fun i H x H' y => y.1) 1 n (fun y _ => ∃ z : Str, y = .str z ∧ (z = "drop" ∨ z = "build")) hD (by exact hb) (by decide) (fun y H H' k r => r) (fun y H o hn r => r) ?_ ?_⟩
  · rintro k x H1 k1 hb1 ⟨acc, hac⟩ Qe hQe
    refine ⟨by decide, fun p hp => ⟨_, rfl, b, 2, k, rfl, by decide, by decide, (hb1.mono (by omega)).ext (Ext.upd hp), fun d H4 hd0 hd1 k4 hb4 => ?_⟩⟩
    obtain ⟨v, hv1, hv2⟩ := atI_of (xs := [V.str "drop", V.str "build"]) hd0 hd1
    have hpb : p ≠ b := hb1.dom hp
    refine ⟨p, _, d, v, rfl, rfl, SqL.of (k4 _ _ hpb upd_same), hv1, hQe _ _ ((KpB.new hp).trans k4) hb4 ?_⟩
    have hm := List.mem_of_getElem? hv2
    simp at hm
    rcases hm with rfl | rfl
    · exact ⟨_, rfl, .inl rfl⟩
    · exact ⟨_, rfl, .inr rfl⟩
  rintro H1 ys k1 hb1 hD1 hl hR
  obtain ⟨ws, hws⟩ := all2_of (R := fun y (z : Str) => y = .str z ∧ (z = "drop" ∨ z = "build")) hR
  obtain rfl : ys = ws.map V.str := by
    refine List.ext_getElem? fun i => ?_
    rcases Nat.lt_or_ge i ws.length with hi | hi
    · obtain ⟨y, hy, e, _⟩ := all2_get' hws (List.getElem?_eq_getElem hi)
      rw [hy, List.getElem?_map, List.getElem?_eq_getElem hi, e]
      rfl
    · rw [List.getElem?_eq_none (by rw [hws.1]; exact hi), List.getElem?_eq_none (by rw [List.length_map]; exact hi)]
  have hw0 : ∀ z ∈ ws, z = "drop" ∨ z = "build" := fun z hz => by
    obtain ⟨i, hi⟩ := List.mem_iff_getElem?.mp hz
    obtain ⟨y, hy, e, h⟩ := all2_get' hws hi
    exact h
  rw [List.length_map] at hl
  refine ⟨_, _, _, rfl, rfl, hD1, by decide, by decide, by rw [List.length_map, hl]; decide, fun p hp => ?_⟩
  obtain ⟨W, hW, hWl, hW0⟩ : ∃ W : List Str, (List.replicate (5 : Int).toNat (ws.map V.str)).flatten = W.map V.str ∧ W.length = 100 ∧ ∀ z ∈ W, z = "drop" ∨ z = "build" := by
    refine ⟨(List.replicate 5 ws).flatten, ?_, ?_, fun z hz => ?_⟩
    · rw [List.map_flatten, List.map_replicate]; rfl
    · simp [hl]
    · obtain ⟨l, h1, h2⟩ := List.mem_flatten.mp hz
      rw [List.eq_of_mem_replicate h1] at h2
      exact hw0 z h2
  rw [hW]
  have e12 : Ext H1 (upd H1 p (.lst (W.map V.str))) := Ext.upd hp
  have hb2 := hb1.ext e12
  have k2 : KpB b H (upd H1 p (.lst (W.map V.str))) := k1.trans (KpB.of e12)
  have t2 := tabs_kpb hTb hb k2
  have hp2 : upd H1 p (.lst (W.map V.str)) p = some (.lst (W.map V.str)) := upd_same
  clear hTb
  show (fun H2 => _) (upd H1 p (.lst (W.map V.str)))
  generalize upd H1 p (.lst (W.map V.str)) = H2 at hb2 k2 t2 hp2 e12
  have stt : ∀ z : Str, (z = "drop" ∨ z = "build") → okSt (z, [["a"]]) ∧ stText (z, [["a"]]) = z ++ " a" := by
    rintro z (rfl | rfl)
    · exact ⟨.inl ⟨.inr rfl, ["a"], rfl, by decide⟩, by decide⟩
    · exact ⟨.inl ⟨.inl rfl, ["a"], rfl, by decide⟩, by decide⟩
  refine ⟨_, rfl, p, rfl, ⟨_, SqL.of hp2⟩, fun S hS => lc_map (R := fun x y H => ∃ z : Str, x = .str z ∧ Stp C (fun a => a ≠ S) H y (z, [["a"]])) walk_list hS (fun H e => SqL.of (e _ _ hp2)) (by rw [List.length_map, hWl]; decide) ?_ ?_ ?_⟩
  · rintro x y H3 H4 e3 k4 ⟨z, rfl, st⟩
    exact ⟨z, rfl, st.mono (fun _ h => h) fun c u hc h _ => k4 c u hc h⟩
  · rintro i x acc H3 hx e3 hSa Qe hQe
    obtain ⟨z, rfl, hz⟩ := map_get hx
    refine ⟨_, rfl, by decide, fun l hl => ord_made' (ws := ["a"]) upd_same (by decide) fun a H4 e4 o => ⟨by show 2 ≤ sizeLine; decide, fun t ht => hQe _ _ (((Ext.upd hl).trans e4).upd' ht) ⟨z, rfl, ?_⟩⟩⟩
    have g1 := (Ext.upd (o := .lst [.str "a"]) hl) _ _ hSa
    have g2 := e4 _ _ g1
    have htS : t ≠ S := fun q => by rw [q, g2] at ht; cases ht
    refine ⟨t, [.ref a], rfl, htS, upd_same, .cons ⟨a, rfl, (o.mono (fun c hc q => ?_) fun c u _ h _ => h).ext (Ext.upd ht)⟩ .nil⟩
    have hc' : upd H3 l (.lst [.str "a"]) c = none := hc
    rw [q, g1] at hc'
    cases hc'
  rintro H3 ss e3 hS3 hA
  have hp3 := e3 _ _ hp2
  have hWlS : (W.map V.str).length < sizeLine := by rw [List.length_map, hWl]; decide
  have hSb : S ≠ b := hb2.dom hS
  have hb3 := hb2.ext e3
  have t3 := t2.ext e3
  have k3 := k2.trans (KpB.of e3)
  have hA2 : All2 (Stp C (fun a => a ≠ S) H3) ss (W.map fun z => (z, [["a"]])) := by
    refine ⟨by rw [← hA.1, List.length_map, List.length_map], fun i x st hx hst => ?_⟩
    rw [List.getElem?_map] at hst
    obtain ⟨z, hz, rfl⟩ := Option.map_eq_some_iff.mp hst
    obtain ⟨z', e, st⟩ := hA.2 i (.str z) x (by rw [List.getElem?_map, hz]; rfl) hx
    cases e
    exact st
  refine ⟨_, rfl, p, rfl, ⟨_, SqL.of hp3⟩, fun L hL => lc_map (R := fun x y H => ∃ z : Str, x = .str z ∧ y = .str (z ++ " a")) walk_list hL (fun H e => SqL.of (e _ _ hp3)) hWlS (fun x y H H' e k r => r) ?_ ?_⟩
  · rintro i x acc H4 hx e4 hLa Qe hQe
    obtain ⟨z, rfl, hz⟩ := map_get hx
    refine ⟨_, rfl, z, _, rfl, rfl, ?_, hQe _ _ Ext.rfl' ⟨z, rfl, rfl⟩⟩
    rcases hW0 z (List.mem_of_getElem? hz) with rfl | rfl <;> decide
  rintro H4 ls e4 hL4 hB
  have hLb : L ≠ b := hb3.dom hL
  have hp4 := e4 _ _ hp3
  have hS4 := e4 _ _ hS3
  have hb4 := hb3.ext e4
  have t4 := t3.ext e4
  have k4 := k3.trans (KpB.of e4)
  have hA4 : All2 (Stp C (fun a => a ≠ S) H4) ss (W.map fun z => (z, [["a"]])) := hA2.imp fun _ _ st => st.ext e4
  have els : ls = (W.map fun z => stText (z, [["a"]])).map V.str := by
    refine List.ext_getElem? fun i => ?_
    rw [List.map_map, List.getElem?_map]
    cases hz : W[i]? with
    | none =>
      have : W.length ≤ i := List.getElem?_eq_none_iff.mp hz
      rw [List.getElem?_eq_none (by rw [← hB.1, List.length_map]; exact this)]
      rfl
    | some z =>
      have hi : i < ls.length := by
        rw [← hB.1, List.length_map]
        rcases Nat.lt_or_ge i W.length with q | q
        · exact q
        · rw [List.getElem?_eq_none q] at hz; cases hz
      obtain ⟨z', e, hy⟩ := hB.2 i (.str z) ls[i] (by rw [List.getElem?_map, hz]; rfl) (List.getElem?_eq_getElem hi)
      cases e
      rw [List.getElem?_eq_getElem hi, hy]
      show some (V.str (z ++ " a")) = some (V.str (stText (z, [["a"]])))
      rw [(stt z (hW0 z (List.mem_of_getElem? hz))).2]
  subst els
  generalize hsts : (W.map fun z => ((z, [["a"]]) : Str × List (List Str))) = sts at hA4
  have hokS : ∀ st ∈ sts, okSt st := fun st h => by
    rw [← hsts] at h
    obtain ⟨z, hz, rfl⟩ := List.mem_map.mp h
    exact (stt z (hW0 z hz)).1
  have hstl : sts.length = 100 := by rw [← hsts, List.length_map, hWl]
  have hssl : ss.length = 100 := hA4.1.trans hstl
  have etx : (W.map fun z => stText (z, [["a"]])) = sts.map stText := by rw [← hsts, List.map_map]; rfl
  rw [etx] at hL4
  clear hb1 hb2 hb3 t2 t3 k1 k2 k3 hA2 hA hB hp3 hS3 hp2 hD1 hp4 e12 e3 hR hws hw0
  obtain ⟨q1, q2⟩ := steps_len hokS (by omega)
  have qq1 : ((sts.map stText).map (·.length)).sum + (sts.map stText).length * (Str.length "\n") ≤ 16777216 := Nat.le_trans q1 (by decide)
  refine ⟨_, rfl, V.ref S, rfl, .inl ⟨S, ss, sts, rfl, .inl hS4, hA4.imp fun _ _ st => st.any, hokS, by omega, fun H5 e5 => ⟨⟨_, rfl⟩, _, rfl, _, L, sts.map stText, rfl, rfl, .inl (SqL.of (e5 _ _ hL4)), qq1, ?_⟩⟩⟩
  refine ⟨rfl, _, rfl, iteN (fun h => ?_) (fun _ => ?_)⟩
  · exact absurd rfl (of_decide_eq_false h)
  refine ⟨⟨_, rfl⟩, _, rfl, _, L, sts.map stText, rfl, rfl, .inl (SqL.of (e5 _ _ hL4)), qq1, V.str _, rfl, .inl ⟨_, rfl, Nat.le_trans q2 (by decide), fun sts' h => ?_, fun i h => ?_⟩⟩
  case refine_2 => rw [pl_text hokS (by omega)] at h; cases h
  rw [pl_text hokS (by omega)] at h
  cases h
  intro p5 H6 xs e6 hp5 h6 hA6
  have hS6 := e6 _ _ (e5 _ _ hS4)
  have hA6' : All2 (Stp C (fun a => a ≠ S) H6) ss sts := hA4.imp fun _ _ st => (st.ext e5).ext e6
  refine ⟨_, rfl, ⟨p5, S, xs, ss, rfl, rfl, h6, hS6, stps_eq hA6 hA6'⟩, fun H7 e7 => ⟨_, rfl, iteF ?_⟩⟩
  have e47 : Ext H4 H7 := (e5.trans e6).trans e7
  have hL7 := e47 _ _ hL4
  have hS7 := e47 _ _ hS4
  have t7 := t4.ext e47
  have hb7 := hb4.ext e47
  have k7 : KpT b H H7 := KpT.kp (k4.trans (KpB.of e47))
  have hA7 : All2 (Stp C (fun a => a ≠ S) H7) ss sts := hA4.imp fun _ _ st => st.ext e47
  clear hA6' hA6 h6 hp5 e6 e5 hS6 hA4 t4 k4 hb4 e4 e47 e7
  -- the hundred and first line
  have hst' : okSt (("drop", [["a"]]) : Str × List (List Str)) ∧ stText ("drop", [["a"]]) = "drop a" := ⟨(stt _ (.inl rfl)).1, (stt _ (.inl rfl)).2.trans (by decide)⟩
  generalize hs2 : sts ++ [((("drop" : Str), [[("a" : Str)]]) : Str × List (List Str))] = sts2
  have hok2 : ∀ st ∈ sts2, okSt st := fun st h => by
    rw [← hs2] at h
    rcases List.mem_append.mp h with h | h
    · exact hokS st h
    · rw [List.mem_singleton.mp h]; exact hst'.1
  have hl2 : sts2.length = 101 := by rw [← hs2, List.length_append, hstl]; rfl
  have el2 : (sts.map stText).map V.str ++ [V.str "drop a"] = (sts2.map stText).map V.str := by rw [← hs2, List.map_append, List.map_append, ← hst'.2]; rfl
  obtain ⟨r1, r2⟩ := steps_len hok2 (by omega)
  have hlen3 : ((sts.map stText).map V.str).length = 100 := by rw [List.length_map, List.length_map, hstl]
  refine ⟨t7, fun H8 e8 t8 => ⟨⟨_, rfl⟩, _, rfl, by decide, fun q hq => ⟨L, q, _, _, rfl, rfl, (Ext.upd hq) _ _ (e8 _ _ hL7 lst_nt), upd_same, by rw [hlen3]; decide, fun r hr => ?_⟩⟩⟩
  rw [el2]
  have e9 : Ext H8 (upd (upd H8 q (.lst [.str "drop a"])) r (.lst ((sts2.map stText).map V.str))) := (Ext.upd hq).upd' hr
  have h9 : upd (upd H8 q (.lst [.str "drop a"])) r (.lst ((sts2.map stText).map V.str)) r = some (.lst ((sts2.map stText).map V.str)) := upd_same
  show (fun H9 => _) (upd (upd H8 q (.lst [.str "drop a"])) r (.lst ((sts2.map stText).map V.str)))
  generalize upd (upd H8 q (.lst [.str "drop a"])) r (.lst ((sts2.map stText).map V.str)) = H9 at e9 h9
  refine ⟨_, r, sts2.map stText, rfl, rfl, .inl (SqL.of h9), Nat.le_trans r1 (by decide), V.str _, rfl, .inl ⟨_, rfl, Nat.le_trans r2 (by decide), fun sts' h => ?_, fun i hi => ?_⟩⟩
  · rw [pl_many hok2 (by omega)] at h; cases h
  rw [pl_many hok2 (by omega)] at hi
  cases hi
  intro d H10 e10 hd h10
  refine ⟨d, .int 100, rfl, .inr (.inl ⟨rfl, h10, fun l1 hl1 => ⟨by show 1 ≤ sizeLine; decide, fun G hG => ?_⟩⟩)⟩
  have hGl : G ≠ l1 := fun z => by rw [z, upd_same] at hG; cases hG
  have e810 : Ext H8 (upd (upd H10 l1 (.lst [.str "line", .int (100 : Nat)])) G (.lst [.ref l1])) := (e9.trans e10).trans ((Ext.upd hl1).upd' hG)
  have t11 := t8.ext e810
  have k11 : KpT b H (upd (upd H10 l1 (.lst [.str "line", .int (100 : Nat)])) G (.lst [.ref l1])) := (k7.trans (KpT.n e8)).trans (KpT.of e810)
  have hb11 := (hb7.n e8).ext e810
  have hS11 := e810 _ _ (e8 _ _ hS7 lst_nt)
  have hl11 : upd (upd H10 l1 (.lst [.str "line", .int (100 : Nat)])) G (.lst [.ref l1]) l1 = some (.lst [.str "line", .int (100 : Nat)]) := by rw [upd_ne hGl.symm, upd_same]
  have hG11 : upd (upd H10 l1 (.lst [.str "line", .int (100 : Nat)])) G (.lst [.ref l1]) G = some (.lst [.ref l1]) := upd_same
  have hGb : G ≠ b := ((hb7.n e8).ext ((e9.trans e10).trans (Ext.upd hl1))).dom hG
  have hGS : G ≠ S := fun z => by rw [z, ((e9.trans e10).trans (Ext.upd hl1)) _ _ (e8 _ _ hS7 lst_nt)] at hG; cases hG
  have kG : ∀ o, (∀ ps, o ≠ .tbl ps) → H G ≠ some o := fun o n z => by
    rw [((k7.trans (KpT.n e8)).trans (KpT.of ((e9.trans e10).trans (Ext.upd hl1)))) G o hGb n z] at hG
    cases hG
  show (fun H11 => _) (upd (upd H10 l1 (.lst [.str "line", .int (100 : Nat)])) G (.lst [.ref l1]))
  generalize upd (upd H10 l1 (.lst [.str "line", .int (100 : Nat)])) G (.lst [.ref l1]) = H11 at t11 k11 hb11 hS11 hl11 hG11
  clear e810 h10 hd e10 h9 e9 hr hq
  -- a hundred and one steps
  refine ⟨_, rfl, .inl ⟨rfl, _, SqL.of hG11⟩, t11, fun H12 e12 t12 => ⟨_, rfl, _, rfl, _, rfl, S, ss, rfl, SqL.of (e12 _ _ hS11 lst_nt), fun q' hq' => ⟨S, q', _, _, rfl, rfl, (Ext.upd hq') _ _ (e12 _ _ hS11 lst_nt), upd_same, ?_, fun r' hr' => ⟨V.ref r', rfl, .inr ⟨BadS.long (.inl upd_same) ?_, fun d' H14 e14 hd' h14 => ⟨d', .ref r', rfl, .inr (.inr ⟨rfl, h14, fun l2 hl2 => ?_⟩)⟩⟩⟩⟩⟩⟩
  · rw [cut_1, hssl]
    exact Nat.le_trans (Nat.add_le_add_left (Nat.le_trans (by rw [List.length_take]; exact Nat.min_le_left _ _) (Nat.le_refl 1)) 100) (by decide)
  · rw [cut_1, List.length_append, List.length_take, hssl]
    decide
  simp only [cut_1] at hr' e14
  have hqr : q' ≠ r' := fun z => by rw [← z, upd_same] at hr'; cases hr'
  have e13 : Ext H12 (upd (upd H12 q' (.lst (ss.take 1))) r' (.lst (ss ++ ss.take 1))) := (Ext.upd hq').upd' hr'
  have e15 : Ext H12 (upd H14 l2 (.lst [.str "steps", .ref r'])) := (e13.trans e14).trans (Ext.upd hl2)
  have t15 := t12.ext e15
  have k15 := (k11.trans (KpT.n e12)).trans (KpT.of e15)
  have hb15 := (hb11.n e12).ext e15
  have hS15 := e15 _ _ (e12 _ _ hS11 lst_nt)
  have hl15 := e15 _ _ (e12 _ _ hl11 lst_nt)
  have hG15 := e15 _ _ (e12 _ _ hG11 lst_nt)
  have hr14 := e14 r' _ upd_same
  have hr15 := (Ext.upd (o := .lst [.str "steps", .ref r']) hl2) _ _ hr14
  have hl2' : upd H14 l2 (.lst [.str "steps", .ref r']) l2 = some (.lst [.str "steps", .ref r']) := upd_same
  have hGr : G ≠ r' := fun z => by
    rw [← z, upd_ne (by rw [z]; exact hqr.symm), e12 _ _ hG11 lst_nt] at hr'
    cases hr'
  have hGl2 : G ≠ l2 := fun z => by rw [← z, (e13.trans e14) _ _ (e12 _ _ hG11 lst_nt)] at hl2; cases hl2
  clear hl2 hq' hr' e13 e14 e15 h14 hd' hr14
  generalize upd H14 l2 (.lst [.str "steps", .ref r']) = H15 at t15 k15 hb15 hS15 hl15 hG15 hr15 hl2'
  refine ⟨G, _, _, rfl, rfl, hG15, by show 1 < sizeLine; decide, ?_⟩
  have t16 := tabs_set (o := .lst ([.ref l1] ++ [.ref l2])) t15 hG15
  have hb16 := hb15.set (o := .lst ([.ref l1] ++ [.ref l2])) hGb
  have k16 : KpT b H (upd H15 G (.lst ([.ref l1] ++ [.ref l2]))) := fun a o n1 n2 h => by
    have n3 : a ≠ G := fun z => kG o n2 (z ▸ h)
    rw [upd_ne n3]
    exact k15 a o n1 n2 h
  have hS16 : upd H15 G (.lst ([.ref l1] ++ [.ref l2])) S = some (.lst ss) := by rw [upd_ne hGS.symm]; exact hS15
  have hl16 : upd H15 G (.lst ([.ref l1] ++ [.ref l2])) l1 = some (.lst [.str "line", .int (100 : Nat)]) := by rw [upd_ne hGl.symm]; exact hl15
  have hr16 : upd H15 G (.lst ([.ref l1] ++ [.ref l2])) r' = some (.lst (ss ++ ss.take 1)) := by rw [upd_ne hGr.symm]; exact hr15
  have hm16 : upd H15 G (.lst ([.ref l1] ++ [.ref l2])) l2 = some (.lst [.str "steps", .ref r']) := by rw [upd_ne hGl2.symm]; exact hl2'
  have hG16 : upd H15 G (.lst ([.ref l1] ++ [.ref l2])) G = some (.lst [.ref l1, .ref l2]) := upd_same
  show (fun H16 => _) (upd H15 G (.lst ([.ref l1] ++ [.ref l2])))
  generalize upd H15 G (.lst ([.ref l1] ++ [.ref l2])) = H16 at t16 hb16 k16 hS16 hl16 hr16 hm16 hG16
  refine ⟨_, rfl, by decide, fun m1 hm1 => ⟨_, rfl, _, rfl, _, rfl, S, ss, rfl, SqL.of ((Ext.upd hm1) _ _ hS16), fun q2 hq2 => ⟨S, q2, _, _, rfl, rfl, ((Ext.upd hm1).upd' hq2) _ _ hS16, upd_same, ?_, fun r2 hr2 => ⟨by show 2 ≤ sizeLine; decide, fun m2 hm2 => ⟨by show 2 ≤ sizeLine; decide, fun m3 hm3 => ?_⟩⟩⟩⟩⟩
  · rw [cut_1, hssl]
    exact Nat.le_trans (Nat.add_le_add_left (Nat.le_trans (by rw [List.length_take]; exact Nat.min_le_left _ _) (Nat.le_refl 1)) 100) (by decide)
  simp only [cut_1] at hm3 hm2 hr2 ⊢
  have hm21 : m2 ≠ m1 := fun z => by rw [z, ((Ext.upd hq2).upd' hr2) _ _ upd_same] at hm2; cases hm2
  have e18 : Ext H16 (upd (upd (upd (upd (upd H16 m1 (.lst [.str "line", .int 100])) q2 (.lst (ss.take 1))) r2 (.lst (ss ++ ss.take 1))) m2 (.lst [.str "steps", .ref r2])) m3 (.lst [.ref m1, .ref m2])) := ((((Ext.upd hm1).upd' hq2).upd' hr2).upd' hm2).upd' hm3
  have g1 : upd (upd (upd (upd (upd H16 m1 (.lst [.str "line", .int 100])) q2 (.lst (ss.take 1))) r2 (.lst (ss ++ ss.take 1))) m2 (.lst [.str "steps", .ref r2])) m3 (.lst [.ref m1, .ref m2]) m1 = some (.lst [.str "line", .int 100]) := ((((Ext.upd hq2).upd' hr2).upd' hm2).upd' hm3) _ _ upd_same
  have g2 : upd (upd (upd (upd (upd H16 m1 (.lst [.str "line", .int 100])) q2 (.lst (ss.take 1))) r2 (.lst (ss ++ ss.take 1))) m2 (.lst [.str "steps", .ref r2])) m3 (.lst [.ref m1, .ref m2]) r2 = some (.lst (ss ++ ss.take 1)) := ((Ext.upd hm2).upd' hm3) _ _ upd_same
  have g3 : upd (upd (upd (upd (upd H16 m1 (.lst [.str "line", .int 100])) q2 (.lst (ss.take 1))) r2 (.lst (ss ++ ss.take 1))) m2 (.lst [.str "steps", .ref r2])) m3 (.lst [.ref m1, .ref m2]) m2 = some (.lst [.str "steps", .ref r2]) := (Ext.upd hm3) _ _ upd_same
  have g4 : upd (upd (upd (upd (upd H16 m1 (.lst [.str "line", .int 100])) q2 (.lst (ss.take 1))) r2 (.lst (ss ++ ss.take 1))) m2 (.lst [.str "steps", .ref r2])) m3 (.lst [.ref m1, .ref m2]) m3 = some (.lst [.ref m1, .ref m2]) := upd_same
  generalize upd (upd (upd (upd (upd H16 m1 (.lst [.str "line", .int 100])) q2 (.lst (ss.take 1))) r2 (.lst (ss ++ ss.take 1))) m2 (.lst [.str "steps", .ref r2])) m3 (.lst [.ref m1, .ref m2]) = H18 at e18 g1 g2 g3 g4
  have href : ∀ x ∈ ss ++ ss.take 1, ∃ a, x = V.ref a := fun x hx => by
    have hx : x ∈ ss := (List.mem_append.mp hx).elim (fun z => z) List.mem_of_mem_take
    obtain ⟨i, hi⟩ := List.mem_iff_getElem?.mp hx
    obtain ⟨st, _, p, _, e, _⟩ := all2_get hA7 hi
    exact ⟨p, e⟩
  refine ⟨⟨G, m3, _, _, rfl, rfl, e18 _ _ hG16, g4, .cons ⟨l1, m1, _, _, rfl, rfl, e18 _ _ hl16, g1, .cons (.inl (dstr _)) (.cons (.inl (dint _)) .nil)⟩ (.cons ⟨l2, m2, _, _, rfl, rfl, e18 _ _ hm16, g3, .cons (.inl (dstr _)) (.cons (.inr ⟨r', r2, _, _, rfl, rfl, e18 _ _ hr16, g2, prs_same href⟩) .nil)⟩ .nil)⟩, fun H19 e19 => hQ H19 (k16.trans (KpT.of (e18.trans e19))) (hb16.ext (e18.trans e19)) (t16.ext (e18.trans e19))⟩
end
end S78
/-! H4: texts and steps, back and forth. -/
namespace S78
open PySem PySem.Spec PyProof.Rows L2 SN HotX L2H RP
abbrev sRight : Stmt := top 47
abbrev nRight : List Str := ["box", "many", "both", "steps", "lines", "lap", "found", "step", "line", "bent", "due"]
theorem scRight : FnScope nRight ["box", "many"] (defScope sRight) := ⟨rfl, rfl, rfl, by decide +kernel, rfl, by decide +kernel, by decide +kernel⟩
def lamQr (x : Str) (cdv : Value) : Str := (envOfC x (defScope sRight) 0 0 cdv).qual ++ "<lambda>"
/-- a def that wants to know the guards, by its name -/
structure ClG (P : Program) (w : World) (K : PySem.W.Frag) (mg : Str → Option Value) (base : Heap) (CX : CXT) (k : Nat) (x : Str) (sp : Sp) : Prop where
  ex : ∃ (f : Addr) (fd : FuncData) (ps : List Str), FnG P w K mg base CX k f fd ps Gnil sp ∧ mg x = some (.ref f) ∧ PySem.W.keepIn K (.ref f) = true ∧ Binds K fd ps []
theorem pe_clG {X : Cx} {CX : CXT} {k j : Nat} {x : Str} {sp : Sp} {E : XK} {e : Expr} {es : List Expr} {t : TA} {p pos : Pos} (c : ClG X.prog X.w X.K X.mg X.base CX k x sp) (hgd : X.A.guards = some []) (hr : Room j X.A) (hk : k ≤ j) (hg : Gl X x) (hx : Passes CX X E) (ha : PA X (e :: es) t)
    (hdb : (x == ("__debug__" : Str)) = false := by decide) (he : starEach (e :: es) X.env = (false, eval e X.env) :: starEach es X.env := by rfl) (hpl : (backTo pos (starEach es X.env)).any (·.1) = false := by rfl) : PE X (.Call (.Name x p) (e :: es) [] pos) (tCallG Gnil [] sp E t) := by
  obtain ⟨f, fd, ps, F, hm, hkp, hb⟩ := c.ex
  exact pe_callG F hgd (hr.mono hk) hg hm hkp hb hx ha hdb he hpl
def spRight (T : List (Addr × Str)) : Sp := fun vs H Q _ => ∃ (b : Addr) (m n : Nat), vs = [.ref b, .int m] ∧ m ≤ 9 ∧ BoxOk H b (300 + n) ∧ LamX.Tabs T H ∧ ∀ H', KpT b H H' → BoxOk H' b n → LamX.Tabs T H' → Q (.bl true) H'
theorem cut_6 {xs : List V} : cutV xs none (some (6 : Int)) = xs.take 6 := by
  unfold cutV HT.sIx
  have h : ¬ ((6 : Int) < 0) := by decide
  simp only [h, if_false, List.drop_zero, Nat.sub_zero]
  show List.take (min 6 xs.length) xs = List.take 6 xs
  rw [Nat.min_def]
  split
  · rfl
  · rw [List.take_length, List.take_of_length_le (by omega)]
/-- [.. for u, v in pairs] -/
theorem lc_two {K : PySem.W.Frag} {a : Addr} {xs out : List V} {te : TE} {j1 j2 : Nat} {σ : L2.St} {H1 : Hp} {D : Addr} {Qd : Hp → Prop} (hD : H1 D = none) (hL : H1 a = some (.lst xs)) (hz : xs.length < sizeLine) (hlen : out.length = xs.length)
    (hi : ∀ (i : Nat) (x : V), xs[i]? = some x → ∃ (p : Addr) (u v o : V), x = V.ref p ∧ H1 p = some (.tup [u, v]) ∧ out[i]? = some o ∧ ∀ (H : Hp) (Qe : VK), Qe o H → te (((wipe σ [j1, j2]).set j1 (some u)).set j2 (some v)) H Qe)
    (hw : ∀ u v, wipe (((wipe σ [j1, j2]).set j1 (some u)).set j2 (some v)) [j1, j2] = wipe σ [j1, j2]) (hd : ∀ H, Ext H1 H → H D = some (.lst out) → Qd H) :
    ∃ W : Nat → Nat → Hp → Prop, (∃ m, W 0 m (upd H1 D (.lst []))) ∧ ∀ i m H, W i m H →
      ((Itl K a).stop i H ∧ Qd H) ∨ ((Itl K a).go i H ∧ ∃ Nx : Hp → Prop, (∀ H', Nx H' → ∃ m', m' < m ∧ W (i + 1) m' H') ∧ ∀ x H', (Itl K a).yld i H x H' → gTup K 2 (gCons (gName j1) (gCons (gName j2) gNil)) x (wipe σ [j1, j2]) H' fun σ2 H2 => wipe σ2 [j1, j2] = wipe σ [j1, j2] ∧ tYes σ2 H2 fun b H3 =>
        if b = true then te σ2 H3 fun y H4 => ∃ acc, H4 D = some (.lst acc) ∧ acc.length < sizeLine ∧ Nx (upd H4 D (.lst (acc ++ [y]))) else Nx H3) := by
  refine lc_it (walk_list (xs := xs)) (fun i H => Ext H1 H ∧ H D = some (.lst (out.take i))) ?_ ?_ ?_ ?_
  · exact ⟨ext_set Ext.rfl' hD, by rw [upd_same, List.take_zero]⟩
  · rintro i H hi ⟨e, _⟩
    exact SqL.of (e _ _ hL)
  · rintro i x H H' hlt ⟨e, hDa⟩ ⟨rfl, hx⟩
    obtain ⟨p, u, v, o, rfl, hp, ho, hte⟩ := hi i x hx
    refine ⟨p, [u, v], rfl, SqT.of (e _ _ hp), rfl, _, _, rfl, _, _, rfl, rfl, hw u v, ?_⟩
    dsimp only [tYes]
    rw [if_pos rfl]
    refine hte H' _ ⟨_, hDa, ?_, ext_set e hD, ?_⟩
    · rw [List.length_take]
      exact Nat.lt_of_le_of_lt (Nat.min_le_right _ _) (by rw [hlen]; exact hz)
    · rw [upd_same, List.take_add_one, ho]
      rfl
  · rintro H ⟨e, hDa⟩
    rw [← hlen, List.take_length] at hDa
    exact hd H e hDa
section
variable {P : Program} {w : World} {K : PySem.W.Frag} {mg : Str → Option Value} {base : Heap} {f : Addr} {fd : FuncData} {C IT IL IS : Addr} {T : List (Addr × Str)}
theorem ok_right (F : FnP K "_law_right" sRight f fd) (Tf : Fre mg) (Cg : CgF K mg) (Ct : CtF K mg IT IL IS) (hT : Tb T base mg fd.code (lamQr "_law_right" fd.code)) (GL : Cl P w K mg base CX0 5 "_law_step" (spLStep C) []) (q : EqF P w K mg base C)
    (GB : Cl P w K mg base CX0 2 "_law_bent" spBent []) (GR : Cl P w K mg base CX0 5 "_law_read" (spRead C) []) (GD : Cl P w K mg base CX0 6 "_law_due" (spDue C) []) (GTo : ClG P w K mg base CX0 9 "_law_step_told" (spTold T C))
    (GT : Cl P w K mg base (L2N.CX P w) 5 "step_text" (spST C IS) []) (GP : Cl P w K mg base (XP.CXp P w) 6 "parse_step" (spPS C IT) []) (GS : Cl P w K mg base (L2N.CX P w) 6 "steps_text" (spSS K C IS) []) (GX : Cl P w K mg base (L2.CX P w) 7 "parse_steps" (spPX C IT IL) []) : FnG P w K mg base CX0 10 f fd ["box", "many"] Gnil (spRight T) := by
  refine fn_gc F scRight (fun vs H Q E h => by obtain ⟨b, m, n, rfl, _⟩ := h; rfl) (fun A g outer s H vs Q E hg hG hr h => ?_)
  obtain ⟨b, m, n, rfl, hm9, hb, hTb, hQ⟩ := h
  have hgd : (A.deeper (envOfC "_law_right" (defScope sRight) s.heap.objs.size f fd.code)).guards = some [] := (guards_deeper A _).trans (hg.trans (congrArg some hG))
  refine ⟨_, PSs.nox (pss_cons (ps_setLc (i := 2) (own := [("lap", 5)]) (g := gName 5) (tt := tYes) rfl scRight.nd rfl rfl (sw_true rfl rfl rfl rfl) (pi_range1 rfl Tf.range (pa_cons (pv 1) pa_nil)) (blkOk_by (N := nRight) (sc := defScope sRight) (by decide +kernel))
        (fun _ _ _ _ _ => pg_name (i := 5) scRight.nd rfl (Or.inl rfl)) (fun _ _ _ _ _ => pts_nil) (fun _ _ _ _ _ => pe_cl GL hr (by decide) rfl pass0 (pa_cons (pv 0) pa_nil)))
    (pss_cons (ps_par (i := 3) (j := 4) rfl scRight.nd rfl rfl (by decide) rfl rfl (pa_cons (pe_lc (own := [("step", 7), ("line", 8)]) (g := gTup K 2 (gCons (gName 7) (gCons (gName 8) gNil))) (tt := tYes) rfl scRight.nd (pi_list (pv 2)) (blkOk_by (N := nRight) (sc := defScope sRight) (by decide +kernel))
        (fun _ _ _ _ _ => pg_tup (n := 2) rfl (by exact pgs_cons (pg_name (i := 7) scRight.nd rfl (Or.inl rfl)) (pgs_cons (pg_name (i := 8) scRight.nd rfl (Or.inl rfl)) pgs_nil))) (fun _ _ _ _ _ => pts_nil) (fun _ _ _ _ _ => pv 7))
      (pa_cons (pe_lc (own := [("step", 7), ("line", 8)]) (g := gTup K 2 (gCons (gName 7) (gCons (gName 8) gNil))) (tt := tYes) rfl scRight.nd (pi_list (pv 2)) (blkOk_by (N := nRight) (sc := defScope sRight) (by decide +kernel))
        (fun _ _ _ _ _ => pg_tup (n := 2) rfl (by exact pgs_cons (pg_name (i := 7) scRight.nd rfl (Or.inl rfl)) (pgs_cons (pg_name (i := 8) scRight.nd rfl (Or.inl rfl)) pgs_nil))) (fun _ _ _ _ _ => pts_nil) (fun _ _ _ _ _ => pv 8)) pa_nil)) rfl)
    (pss_cons (ps_if (PW.pt (pw_or (pt_cmpR op_ne (pe_cl GS hr (by decide) rfl passN0 (pa_cons (pv 3) pa_nil)) (pe_join pe_str (pv 4)) rfl)
        (pw_or1 (pt_cmpR op_ne (pe_cl GS hr (by decide) rfl passN0 (pa_cons (pe_tupleOf rfl Tf.tuple (pv 3)) pa_nil)) (pe_join pe_str (pv 4)) rfl)))) (pss_one (ps_ret pe_bl)) pss_nil)
    (pss_cons (ps_for PassesOwn.never rfl (pi_range1 rfl Tf.range (pa_cons pe_int pa_nil)) (pg_name (i := 5) scRight.nd rfl (Or.inl rfl))
      (pss_cons (ps_set (i := 6) scRight.nd rfl (Or.inl rfl) (pe_cl GX hr (by decide) rfl pass20 (pa_cons (pe_join pe_str (pv 4)) pa_nil)))
      (pss_cons (ps_if (pt_cmpR (op_neList mon_val (eqG_val q) (hr.mono (by decide))) (pv 6) (pv 3) rfl) (pss_one (ps_ret pe_bl)) pss_nil)
      (pss_one (ps_expr (pe_bm PySem.F.plainAttrs_list PySem.F.slot_list_append PySem.F.type_list_append mt_append (pv 6) (pa_cons pe_str pa_nil)))))))
    (pss_cons (ps_for PassesOwn.never rfl (pi_list (pe_slice sl_list (pv 2) po_none (po_some pe_int))) (pg_tup (n := 2) rfl (by exact pgs_cons (pg_name (i := 7) scRight.nd rfl (Or.inl rfl)) (pgs_cons (pg_name (i := 8) scRight.nd rfl (Or.inl rfl)) pgs_nil)))
      (pss_cons (ps_if (PW.pt (pw_or (pt_cmpR op_ne (pe_cl GT hr (by decide) rfl passN0 (pa_cons (pv 7) pa_nil)) (pv 8) rfl) (pw_or1 (pt_cmpR (op_neTup mon_ord (eqG_ord q) (hr.mono (by decide))) (pe_cl GP hr (by decide) rfl passP0 (pa_cons (pv 8) pa_nil)) (pv 7) rfl)))) (pss_one (ps_ret pe_bl)) pss_nil)
      (pss_cons (ps_set (i := 9) scRight.nd rfl (Or.inr rfl) (pe_cl GB hr (by decide) rfl pass0 (pa_cons (pv 0) (pa_cons (pv 8) pa_nil))))
      (pss_cons (ps_set (i := 10) scRight.nd rfl (Or.inl rfl) (pe_ifExp (pt_cmpR op_isN (pe_cl GR hr (by decide) rfl pass0 (pa_cons (pv 9) pa_nil)) pe_non rfl) (pe_lst (pa_cons pe_str (pa_cons (pv 9) pa_nil))) (pe_lst (pa_cons pe_str (pa_cons (pe_cl GR hr (by decide) rfl pass0 (pa_cons (pv 9) pa_nil)) pa_nil)))))
      (pss_one (ps_if (pt_cmpR (op_neList mon_val (eqG_val q) (hr.mono (by decide))) (pe_clG GTo hgd hr (by decide) rfl pass0 (pa_cons (pv 9) pa_nil)) (pv 10) rfl) (pss_one (ps_ret pe_bl)) pss_nil))))))
    (pss_cons (ps_set (i := 9) scRight.nd rfl (Or.inr rfl) (pe_cl GB hr (by decide) rfl pass0 (pa_cons (pv 0) (pa_cons (pe_join pe_str (pv 4)) pa_nil))))
    (pss_one (ps_ret (pe_cmpR (op_eqG (rcG_list mon_item (eqG_item q)) (hr.mono (by decide))) (pe_caught (k := 7) (t := fun E => tCall (spPX C IT IL) [] E (tCons (tVar 9) tNil)) Cg Ct hT hr rfl (by exact LamX.lamS_by (show LamX.lamSB (defScope sRight) _ = true by decide +kernel)) rfl (fun _ _ _ _ _ => rfl)
        (fun A outer s H E f c' hr' => pe_cl (X := LamX.lamCx _ A outer s H E _ f c') GX hr' (by decide) rfl passL (pa_cons (pv 9) pa_nil))) (pe_cl GD hr (by decide) rfl pass0 (pa_cons (pv 9) pa_nil)) rfl))))))))), ?_⟩
  refine ⟨_, rfl, ⟨(m : Int), rfl, by omega, by omega, fun D hD => lc_box (b := b) (D := D) walk_range (fun i H x H' y => y.1) 28 (48 + n) (fun y H => ∃ (pr : V × (Str × List (List Str))) (p : Addr), y = .ref p ∧ (p ≠ b ∧ p ≠ D) ∧ okSt pr.2 ∧ Stp C (fun a => a ≠ b ∧ a ≠ D) H pr.1 pr.2 ∧ H p = some (.tup [pr.1, .str (stText pr.2)])) hD (hb.mono (by simp; omega)) (by simp; exact Nat.lt_of_le_of_lt hm9 (by decide)) ?_ ?_ ?_ ?_⟩⟩
  · rintro y H1 H2 k ⟨pr, p, rfl, hpb, ok, st, hp⟩
    exact ⟨pr, p, rfl, hpb, ok, st.mono (fun _ h => h) fun c u hc h _ => k c u hc.1 h, k _ _ hpb.1 hp⟩
  · rintro y H1 o hn ⟨pr, p, rfl, hpb, ok, st, hp⟩
    exact ⟨pr, p, rfl, hpb, ok, st.mono (fun _ h => h) fun c u hc h _ => by rw [upd_ne hc.2]; exact h, by rw [upd_ne hpb.2]; exact hp⟩
  · rintro k x H1 k1 hb1 ⟨acc, hac⟩ Qe hQe
    refine ⟨_, rfl, b, k, rfl, hb1, fun p v st H4 hp k4 hb4 ok stp hpv => hQe _ _ k4 hb4 ⟨(v, st), p, rfl, ⟨hb1.dom hp, fun z => by rw [z, hac] at hp; cases hp⟩, ok, stp.mono (fun a ha => ⟨hb1.dom ha, fun z => by rw [z, hac] at ha; cases ha⟩) fun c u _ h _ => h, hpv⟩⟩
  rintro H1 ys k1 hb1 hD1 hl hR
  obtain ⟨prs, hA⟩ := all2_of hR
  have hDb : D ≠ b := hb.dom hD
  have hyl : ys.length ≤ 9 := by rw [hl]; simp; exact hm9
  have hpl : prs.length = ys.length := hA.1.symm
  -- the two lists
  generalize hss : prs.map (·.1) = ss
  generalize hsts : prs.map (·.2) = sts
  have hssl : ss.length ≤ 9 := by rw [← hss, List.length_map, hpl]; exact hyl
  have hstl : sts.length ≤ 9 := by rw [← hsts, List.length_map, hpl]; exact hyl
  have hpr : ∀ (i : Nat) (x : V), ys[i]? = some x → ∃ (p : Addr) (v : V) (st : Str × List (List Str)), x = V.ref p ∧ ss[i]? = some v ∧ sts[i]? = some st ∧ (p ≠ b ∧ p ≠ D) ∧ okSt st ∧ Stp C (fun a => a ≠ b ∧ a ≠ D) H1 v st ∧ H1 p = some (.tup [v, .str (stText st)]) := by
    intro i x hx
    obtain ⟨pr, hp, p, rfl, h1, h2, h3, h4⟩ := all2_get hA hx
    exact ⟨p, pr.1, pr.2, rfl, by rw [← hss, List.getElem?_map, hp]; rfl, by rw [← hsts, List.getElem?_map, hp]; rfl, h1, h2, h3, h4⟩
  have hAS : All2 (Stp C (fun a => a ≠ b ∧ a ≠ D) H1) ss sts := by
    refine ⟨by rw [← hss, ← hsts, List.length_map, List.length_map], fun i v st hv hst => ?_⟩
    rw [← hss, List.getElem?_map] at hv
    rw [← hsts, List.getElem?_map] at hst
    obtain ⟨pr, hp, rfl⟩ := Option.map_eq_some_iff.mp hv
    rw [hp] at hst
    cases hst
    obtain ⟨x, hx, p, e, h1, h2, h3, h4⟩ := all2_get' hA hp
    exact h3
  have hokS : ∀ st ∈ sts, okSt st := fun st h => by
    rw [← hsts] at h
    obtain ⟨pr, hp, rfl⟩ := List.mem_map.mp h
    obtain ⟨i, hi⟩ := List.mem_iff_getElem?.mp hp
    obtain ⟨x, hx, p, e, h1, h2, h3, h4⟩ := all2_get' hA hi
    exact h2
  have h9s : ys.length < sizeLine := Nat.lt_of_le_of_lt hyl (by decide)
  refine ⟨_, rfl, D, rfl, ⟨_, SqL.of hD1⟩, fun S hS => lc_two (out := ss) hS hD1 h9s (by rw [← hss, List.length_map, hpl]) ?_ (fun _ _ => rfl) ?_⟩
  · intro i x hx
    obtain ⟨p, v, st, rfl, h1, h2, h3, h4, h5, h6⟩ := hpr i x hx
    exact ⟨p, _, _, v, rfl, h6, h1, fun H Qe k => ⟨_, rfl, k⟩⟩
  intro H2 e2 hS2
  have hD2 := e2 _ _ hD1
  refine ⟨_, rfl, D, rfl, ⟨_, SqL.of hD2⟩, fun L hL => lc_two (out := (sts.map stText).map V.str) hL hD2 h9s (by rw [List.length_map, List.length_map, ← hsts, List.length_map, hpl]) ?_ (fun _ _ => rfl) ?_⟩
  · intro i x hx
    obtain ⟨p, v, st, rfl, h1, h2, h3, h4, h5, h6⟩ := hpr i x hx
    exact ⟨p, _, _, _, rfl, e2 _ _ h6, by rw [List.getElem?_map, List.getElem?_map, h2]; rfl, fun H Qe k => ⟨_, rfl, k⟩⟩
  intro H3 e3 hL3
  have e13 : Ext H1 H3 := e2.trans e3
  have hS3 := e3 _ _ hS2
  have hD3 := e13 _ _ hD1
  have hb3 := hb1.ext e13
  have k3 : KpB b H H3 := k1.trans (KpB.of e13)
  have t3 := tabs_kpb hTb hb k3
  have hSb : S ≠ b := hb1.dom hS
  have hLb : L ≠ b := (hb1.ext e2).dom hL
  have hAS3 : All2 (Stp C (fun a => a ≠ b) H3) ss sts := hAS.imp fun _ _ st => (st.mono (S' := fun a => a ≠ b) (fun _ h => h.1) fun c u _ h _ => h).ext e13
  have hpr3 : ∀ (i : Nat) (x : V), ys[i]? = some x → ∃ (p : Addr) (v : V) (st : Str × List (List Str)), x = V.ref p ∧ p ≠ b ∧ okSt st ∧ Stp C (fun a => a ≠ b) H3 v st ∧ H3 p = some (.tup [v, .str (stText st)]) := by
    intro i x hx
    obtain ⟨p, v, st, rfl, h1, h2, h3, h4, h5, h6⟩ := hpr i x hx
    exact ⟨p, v, st, rfl, h3.1, h4, (h5.mono (S' := fun a => a ≠ b) (fun _ h => h.1) fun c u _ h _ => h).ext e13, e13 _ _ h6⟩
  clear hpr hAS hA hR hb1 e2 e3 hD2 hS2 hL hS k1 hD1 e13
  obtain ⟨q1, q2⟩ := steps_len hokS (by omega)
  have qq1 : ((sts.map stText).map (·.length)).sum + (sts.map stText).length * (Str.length "\n") ≤ 16777216 := Nat.le_trans q1 (by decide)
  refine ⟨_, _, rfl, _, rfl, V.ref S, rfl, .inl ⟨S, ss, sts, rfl, .inl hS3, hAS3.imp fun _ _ st => st.any, hokS, by omega, fun H5 e5 => ⟨⟨_, rfl⟩, _, rfl, _, L, sts.map stText, rfl, rfl, .inl (SqL.of (e5 _ _ hL3)), qq1, ?_⟩⟩⟩
  refine ⟨rfl, _, rfl, iteN (fun h => absurd rfl (of_decide_eq_false h)) (fun _ => ?_)⟩
  refine ⟨_, rfl, .inl ⟨S, ss, rfl, SqL.of (e5 _ _ hS3), fun u hu => ⟨V.ref u, rfl, .inl ⟨u, ss, sts, rfl, .inr upd_same, hAS3.imp fun _ _ st => (st.any.ext e5).ext (Ext.upd hu), hokS, by omega, fun H6 e6 => ⟨⟨_, rfl⟩, _, rfl, _, L, sts.map stText, rfl, rfl, .inl (SqL.of (e6 _ _ ((Ext.upd hu) _ _ (e5 _ _ hL3)))), qq1, ?_⟩⟩⟩⟩⟩
  refine ⟨rfl, _, rfl, iteN (fun h => absurd rfl (of_decide_eq_false h)) (fun _ => ?_)⟩
  have e36 : Ext H3 H6 := (e5.trans (Ext.upd hu)).trans e6
  -- the two laps
  refine ⟨2, rfl, by decide, by decide, for_range (fun i σ H7 => ∃ x5 x6, σ = [some (.ref b), some (.int m), some (.ref D), some (.ref S), some (.ref L), x5, x6, none, none, none, none] ∧ Ext H3 H7) ⟨_, _, rfl, e36⟩ ?_ ?_⟩
  · rintro i σ H7 hi ⟨x5, x6, rfl, e7⟩
    refine ⟨⟨_, rfl⟩, _, rfl, _, L, sts.map stText, rfl, rfl, .inl (SqL.of (e7 _ _ hL3)), qq1, V.str _, rfl, .inl ⟨_, rfl, Nat.le_trans q2 (by decide), fun sts' h => ?_, fun i h => ?_⟩⟩
    case refine_2 => rw [pl_text hokS (by omega)] at h; cases h
    rw [pl_text hokS (by omega)] at h
    cases h
    intro p8 H8 xs e8 hp8 h8 hA8
    refine ⟨_, rfl, _, rfl, ⟨p8, S, xs, ss, rfl, rfl, h8, e8 _ _ (e7 _ _ hS3), stps_eq hA8 (hAS3.imp fun _ _ st => (st.ext e7).ext e8)⟩, fun H9 e9 => ⟨_, rfl, iteF ?_⟩⟩
    have h9 := e9 _ _ h8
    refine ⟨_, rfl, .inl ⟨rfl, _, SqL.of h9⟩, p8, _, _, rfl, rfl, h9, ?_, _, _, rfl, ext_set ((e7.trans e8).trans e9) (ext_none e7 hp8)⟩
    rw [hA8.1]
    exact Nat.lt_of_le_of_lt hstl (by decide)
  rintro σ H7 ⟨x5, x6, rfl, e7⟩
  -- six lines
  have t7 := t3.ext e7
  have hb7 : BoxOk H7 b (48 + n) := hb3.ext e7
  have hD7 := e7 _ _ hD3
  have fin : ∀ (σ : L2.St) (H8 : Hp), (∃ x5 x6 x7 x8 x9 x10, σ = [some (.ref b), some (.int m), some (.ref D), some (.ref S), some (.ref L), x5, x6, x7, x8, x9, x10]) → KpT b H3 H8 → LamX.Tabs T H8 → BoxOk H8 b (5 + n) → ∀ (Rt : Ends),
      (∀ H9, KpT b H3 H9 → LamX.Tabs T H9 → BoxOk H9 b n → Rt.rt (.bl true) H9) → tSeq (tAsg (tCall spBent [] E0 (tCons (tVar 0) (tCons (tJn K (tC (.str "\n")) (tVar 4)) tNil))) (gName 9)) (tRet (tOp (rEqG (DList (DItem K C))) (tCgt T IT IL IS fun E => tCall (spPX C IT IL) [] E (tCons (tVar 9) tNil)) (tCall (spDue C) [] E0 (tCons (tVar 9) tNil)))) Rt σ H8 := by
    rintro σ H8 ⟨x5, x6, x7, x8, x9, x10, rfl⟩ k8 t8 hb8 Rt hRt
    refine ⟨_, rfl, ⟨_, rfl⟩, _, rfl, _, L, sts.map stText, rfl, rfl, .inl (SqL.of (k8 _ _ hLb lst_nt hL3)), qq1, b, _, n, rfl, Nat.le_trans q2 (by decide), hb8, fun z H9 hz k9 hb9 => ?_⟩
    have hz1 : z.length ≤ 100000 := by omega
    have t9 := tabs_kpb t8 hb8 k9
    have k39 := k8.trans (KpT.kp k9)
    have done : ∀ H10, LamX.ExtN H9 H10 → LamX.Tabs T H10 → ∀ H11, Ext H10 H11 → Rt.rt (.bl true) H11 := fun H10 eN tN H11 e11 => hRt H11 ((k39.trans (KpT.n eN)).trans (KpT.of e11)) (tN.ext e11) ((hb9.n eN).ext e11)
    refine ⟨t9, fun H10 eN tN => ⟨_, rfl, V.str z, rfl, .inl ⟨z, rfl, hz1, fun st2 h2 p H11 xs e11 hp h11 hA11 => ⟨by show 2 ≤ sizeLine; decide, fun d hd => ?_⟩, fun i h2 d H11 e11 hd h11 => ⟨d, .int i, rfl, .inr (.inl ⟨rfl, h11, fun d hd => ?_⟩)⟩⟩⟩⟩
    · have hd12 : upd H11 d (.lst [.str "told", .ref p]) d = some (.lst [.str "told", .ref p]) := upd_same
      have e12 : Ext H11 (upd H11 d (.lst [.str "told", .ref p])) := Ext.upd hd
      refine ⟨_, rfl, z, rfl, hz1, fun i h3 => (by rw [h2] at h3; cases h3), fun st3 h3 p3 q3 xs3 H13 hp3 hq3 e13 g1 g2 g3 => ?_⟩
      rw [h2] at h3
      cases h3
      exact ⟨⟨d, p3, _, _, rfl, rfl, e13 _ _ hd12, g1, .cons (.inl (dstr _)) (.cons (.inr ⟨p, q3, _, _, rfl, rfl, e13 _ _ (e12 _ _ h11), g2, stps_eq (hA11.imp fun _ _ st => (st.ext e12).ext e13) g3⟩) .nil)⟩, fun H14 e14 => done H10 eN tN H14 (((e11.trans e12).trans e13).trans e14)⟩
    · have hd12 : upd H11 d (.lst [.str "line", .int (i : Nat)]) d = some (.lst [.str "line", .int (i : Nat)]) := upd_same
      have e12 : Ext H11 (upd H11 d (.lst [.str "line", .int (i : Nat)])) := Ext.upd hd
      refine ⟨_, rfl, z, rfl, hz1, fun i3 h3 p3 H13 hp3 e13 g1 => ?_, fun st3 h3 => by rw [h2] at h3; cases h3⟩
      rw [h2] at h3
      cases h3
      exact ⟨⟨d, p3, _, _, rfl, rfl, e13 _ _ hd12, g1, .cons (.inl (dstr _)) (.cons (.inl (dint _)) .nil)⟩, fun H14 e14 => done H10 eN tN H14 (((e11.trans e12).trans e13).trans e14)⟩
  refine ⟨_, rfl, _, rfl, D, ys, rfl, SqL.of hD7, fun c hc => ⟨c, rfl, ⟨_, SqL.of upd_same⟩, ?_⟩⟩
  rw [cut_6]
  have e7c : Ext H7 (upd H7 c (.lst (ys.take 6))) := Ext.upd hc
  have hc8 : upd H7 c (.lst (ys.take 6)) c = some (.lst (ys.take 6)) := upd_same
  have hcb : c ≠ b := hb7.dom hc
  refine for_list (xs := ys.take 6) (fun i σ H8 => (∃ x5 x6 x7 x8 x9 x10, σ = [some (.ref b), some (.int m), some (.ref D), some (.ref S), some (.ref L), x5, x6, x7, x8, x9, x10]) ∧ KpT b (upd H7 c (.lst (ys.take 6))) H8 ∧ LamX.Tabs T H8 ∧ BoxOk H8 b ((6 - i) * 5 + (5 + n))) ?_ ?_ ?_ ?_
  · exact ⟨⟨_, _, _, _, _, _, rfl⟩, KpT.rfl', t7.ext e7c, (hb7.ext e7c).mono (by omega)⟩
  · rintro i σ H8 hi ⟨_, k8, _⟩
    exact SqL.of (k8 _ _ hcb lst_nt hc8)
  · rintro i x σ H8 hx ⟨⟨x5, x6, x7, x8, x9, x10, rfl⟩, k8, t8, hb8⟩
    have hi6 : i < 6 := by
      rcases Nat.lt_or_ge i 6 with h | h
      · exact h
      · rw [List.getElem?_eq_none (by rw [List.length_take]; omega)] at hx; cases hx
    have hx' : ys[i]? = some x := by rw [List.getElem?_take, if_pos hi6] at hx; exact hx
    obtain ⟨p, v, st, rfl, hpb, ok, stp, hp⟩ := hpr3 i x hx'
    have e38 : KpT b H3 H8 := (KpT.of (e7.trans e7c)).trans k8
    have hp8 := e38 _ _ hpb tup_nt hp
    have stp8 : Stp C (fun a => a ≠ b) H8 v st := stp.mono (fun _ h => h) fun c u hc h hn => e38 c u hc hn h
    have hln := stText_len ok
    refine ⟨p, _, rfl, SqT.of hp8, rfl, _, _, rfl, _, _, rfl, rfl, _, rfl, v, rfl, .inl ⟨st, stp8.any, ok, fun H9 e9 => ⟨_, rfl, rfl, _, rfl, iteN (fun h => absurd rfl (of_decide_eq_false h)) (fun _ => ?_)⟩⟩⟩
    refine ⟨_, rfl, V.str _, rfl, .inl ⟨_, rfl, Nat.le_trans hln (by decide), fun st' h => ?_, fun h => ?_⟩⟩
    case refine_2 => rw [pSt_text ok] at h; cases h
    rw [pSt_text ok] at h
    cases h
    intro v' H10 e10 stp'
    refine ⟨_, rfl, ⟨stp_eq stp' ((stp8.ext e9).ext e10), fun H11 e11 => ⟨_, rfl, iteF ?_⟩⟩⟩
    have e811 := (e9.trans e10).trans e11
    have hb11 : BoxOk H11 b (5 + ((6 - (i + 1)) * 5 + (5 + n))) := (hb8.ext e811).mono (by omega)
    refine ⟨_, rfl, _, rfl, b, _, _, rfl, Nat.le_trans hln (by decide), hb11, fun z H12 hz k12 hb12 => ?_⟩
    have hz3 : z.length ≤ 1000 := by omega
    have hzm : z.length ≤ 1000000 := by omega
    have k8' : KpT b (upd H7 c (.lst (ys.take 6))) H12 := (k8.trans (KpT.of e811)).trans (KpT.kp k12)
    have t12 := tabs_kpb (t8.ext e811) hb11 k12
    -- what is due
    have again : ∀ H', Ext H12 H' → ∀ H'', LamX.ExtN H' H'' → LamX.Tabs T H'' → ∀ H3', Ext H'' H3' → KpT b (upd H7 c (.lst (ys.take 6))) H3' ∧ LamX.Tabs T H3' ∧ BoxOk H3' b ((6 - (i + 1)) * 5 + (5 + n)) := fun H' e' H'' eN tN H3' e3' =>
      ⟨((k8'.trans (KpT.of e')).trans (KpT.n eN)).trans (KpT.of e3'), tN.ext e3', ((hb12.ext e').n eN).ext e3'⟩
    refine ⟨_, rfl, z, rfl, hzm, fun st2 h2 v2 H13 e13 stp2 => ?_, fun hn H13 e13 => ?_⟩
    · obtain ⟨p2, os2, rfl, _⟩ := id stp2
      refine ⟨rfl, _, rfl, iteF ?_⟩
      refine ⟨_, rfl, z, rfl, hzm, fun st3 h3 v3 H14 e14 stp3 => ⟨by show 2 ≤ sizeLine; decide, fun d hd => ?_⟩, fun hn => by rw [hn] at h2; cases h2⟩
      have stp3' := stp3.any.ext (Ext.upd (o := .lst [.str "told", v3]) hd)
      have e15 := (e13.trans e14).trans (Ext.upd (o := .lst [.str "told", v3]) hd)
      have hd15 : upd H14 d (.lst [.str "told", v3]) d = some (.lst [.str "told", v3]) := upd_same
      refine ⟨_, rfl, rfl, z, rfl, hzm, t12.ext e15, fun st4 h4 p4 v4 H16 eN tN stp4 h16 => ?_, fun hn => by rw [hn] at h2; cases h2⟩
      rw [h3] at h4
      cases h4
      refine ⟨_, rfl, ⟨p4, d, _, _, rfl, rfl, h16, eN _ _ hd15 lst_nt, .cons (dstr _) (.cons (.inr (stp_eq stp4 (stp3'.mono (S' := An) (fun _ h => h) fun c u _ h hn => eN c u h hn))) .nil)⟩, fun H17 e17 => ⟨_, rfl, iteF ⟨⟨_, _, _, _, _, _, rfl⟩, again _ e15 _ eN tN _ e17⟩⟩⟩
    · refine ⟨rfl, _, rfl, iteT ⟨_, rfl, by show 2 ≤ sizeLine; decide, fun d hd => ?_⟩⟩
      have e15 := e13.trans (Ext.upd (o := .lst [.str "text", .str z]) hd)
      have hd15 : upd H13 d (.lst [.str "text", .str z]) d = some (.lst [.str "text", .str z]) := upd_same
      refine ⟨_, rfl, rfl, z, rfl, hzm, t12.ext e15, fun st4 h4 => (by rw [hn] at h4; cases h4), fun _ p4 H16 eN tN h16 => ?_⟩
      refine ⟨_, rfl, ⟨p4, d, _, _, rfl, rfl, h16, eN _ _ hd15 lst_nt, .cons (dstr _) (.cons (dstr _) .nil)⟩, fun H17 e17 => ⟨_, rfl, iteF ⟨⟨_, _, _, _, _, _, rfl⟩, again _ e15 _ eN tN _ e17⟩⟩⟩
  · rintro σ H8 ⟨hσ, k8, t8, hb8⟩
    exact fin σ H8 hσ ((KpT.of (e7.trans e7c)).trans k8) t8 (hb8.mono (by omega)) _ fun H9 k9 t9 hb9 => hQ H9 ((KpT.kp k3).trans k9) hb9 t9
end
end S78
/-! H5: what is shown, and what is added late. -/
namespace S78
open PySem PySem.Spec PyProof.Rows L2 SN HotX L2H RP Builtin Builtin.List
/-- the values that are shown: S, what is never added to; k: room for what is added -/
inductive Sh (C : Addr) (S : Addr → Prop) (H : Hp) (k : Nat) : Nat → Nat → List Addr → V → Prop where
  | non {n L : Nat} {bs : List Addr} (h : 4 ≤ L) : Sh C S H k n L bs .non
  | int {n L : Nat} {bs : List Addr} (h : 1 ≤ L) : Sh C S H k n L bs (.int 5)
  | str {n L : Nat} {bs : List Addr} {z : Str} (h : (reprText z).length ≤ L) : Sh C S H k n L bs (.str z)
  | ord {n L : Nat} {bs : List Addr} {a : Addr} {ws : List Str} (dx l : Addr) (sa : S a) (sl : S l) (h : H a = some (.ins C dx [("own_columns", .ref l)])) (hl : H l = some (.lst (ws.map V.str))) (hw : colsB ws = true) (hn : 3 ≤ n) (hb : l ∈ bs) (hL : 510 ≤ L) : Sh C S H k n L bs (.ref a)
  | tup {n m L L' : Nat} {as bs : List Addr} {p : Addr} {xs : List V} (h : H p = some (.tup xs)) (hs : ∀ x ∈ xs, Sh C S H k n L as x) (hp : p ∉ as) (hb : ∀ a ∈ p :: as, a ∈ bs) (hm : n + 1 ≤ m) (hL : xs.length * (L + 2) + 3 ≤ L') : Sh C S H k m L' bs (.ref p)
  | lst {n m L L' : Nat} {as bs : List Addr} {p : Addr} {xs : List V} (h : H p = some (.lst xs)) (hs : ∀ x ∈ xs, Sh C S H k n L as x) (hp : p ∉ as) (hb : ∀ a ∈ p :: as, a ∈ bs) (hm : n + 1 ≤ m) (h6 : 6 ≤ L) (hL : (xs.length + k) * (L + 2) + 3 ≤ L') : Sh C S H k m L' bs (.ref p)
  | dct {n L : Nat} {bs : List Addr} {p : Addr} (h : H p = some (.dK [])) (hb : p ∈ bs) (hn : 1 ≤ n) (hL : 2 ≤ L) : Sh C S H k n L bs (.ref p)
def Late (S : Addr → Prop) (H H' : Hp) : Prop := ∀ a o, H a = some o → H' a = some o ∨ (¬ S a ∧ ∃ xs, o = .lst xs ∧ H' a = some (.lst (xs ++ [.str "late"])))
section
variable {C : Addr} {S : Addr → Prop} {H H' : Hp} {k n L : Nat} {bs : List Addr} {x : V}
theorem Sh.late (h : Sh C S H 1 n L bs x) (e : Late S H H') : Sh C S H' 0 n L bs x := by
  induction h with
  | non h => exact .non h
  | int h => exact .int h
  | str h => exact .str h
  | ord dx l sa sl h hl hw hn hb hL =>
    refine .ord dx l sa sl ?_ ?_ hw hn hb hL
    · rcases e _ _ h with q | ⟨q, _⟩
      · exact q
      · exact absurd sa q
    · rcases e _ _ hl with q | ⟨q, _⟩
      · exact q
      · exact absurd sl q
  | tup h hs hp hb hm hL ih =>
    refine .tup ?_ ih hp hb hm hL
    rcases e _ _ h with q | ⟨_, xs, q, _⟩
    · exact q
    · cases q
  | lst h hs hp hb hm h6 hL ih =>
    rcases e _ _ h with q | ⟨_, xs, q, q2⟩
    · refine .lst q ih hp hb hm h6 (Nat.le_trans (Nat.add_le_add_right (Nat.mul_le_mul_right _ (Nat.le_succ _)) _) hL)
    · cases q
      refine .lst q2 (fun y hy => ?_) hp hb hm h6 (by rw [List.length_append]; exact hL)
      rcases List.mem_append.mp hy with hy | hy
      · exact ih y hy
      · rw [List.mem_singleton.mp hy]
        exact .str (Nat.le_trans (show (reprText "late").length ≤ 6 by decide +kernel) h6)
  | dct h hb hn hL =>
    refine .dct ?_ hb hn hL
    rcases e _ _ h with q | ⟨_, xs, q, _⟩
    · exact q
    · cases q
theorem Sh.mono {b : Addr} (h : Sh C S H k n L bs x) (e : KpT b H H') (hS : ∀ a, S a → a ≠ b) (hB : ∀ a ∈ bs, a ≠ b) : Sh C S H' k n L bs x := by
  induction h with
  | non h => exact .non h
  | int h => exact .int h
  | str h => exact .str h
  | ord dx l sa sl h hl hw hn hb hL => exact .ord dx l sa sl (e _ _ (hS _ sa) (fun ps z => by cases z) h) (e _ _ (hS _ sl) lst_nt hl) hw hn hb hL
  | tup h hs hp hb hm hL ih => exact .tup (e _ _ (hB _ (hb _ (List.mem_cons_self ..))) tup_nt h) (fun y hy => ih y hy fun a ha => hB a (hb a (List.mem_cons_of_mem _ ha))) hp hb hm hL
  | lst h hs hp hb hm h6 hL ih => exact .lst (e _ _ (hB _ (hb _ (List.mem_cons_self ..))) lst_nt h) (fun y hy => ih y hy fun a ha => hB a (hb a (List.mem_cons_of_mem _ ha))) hp hb hm h6 hL
  | dct h hb hn hL => exact .dct (e _ _ (hB _ hb) (fun ps z => by cases z) h) hb hn hL
theorem Sh.ne {b : Addr} (h : Sh C S H k n L bs x) (hS : ∀ a, S a → a ≠ b) (hB : ∀ a ∈ bs, a ≠ b) : x ≠ .ref b := by
  cases h with
  | non h => exact fun z => by cases z
  | int h => exact fun z => by cases z
  | str h => exact fun z => by cases z
  | ord dx l sa sl h hl hw hn hb hL => exact fun z => by cases z; exact hS _ sa rfl
  | tup h hs hp hb hm hL => exact fun z => by cases z; exact hB _ (hb _ (List.mem_cons_self ..)) rfl
  | lst h hs hp hb hm h6 hL => exact fun z => by cases z; exact hB _ (hb _ (List.mem_cons_self ..)) rfl
  | dct h hb hn hL => exact fun z => by cases z; exact hB _ hb rfl
theorem Sh.nb {b : Addr} (h : Sh C S H k n L bs x) (hS : ∀ a, S a → a ≠ b) (hB : ∀ a ∈ bs, a ≠ b) {p : Addr} {xs : List V} (e : x = .ref p) (hp : LoT H p xs) : ∀ y ∈ xs, y ≠ .ref b := by
  cases h with
  | non h => cases e
  | int h => cases e
  | str h => cases e
  | ord dx l sa sl h hl hw hn hb hL => cases e; rcases hp with q | q <;> rw [h] at q <;> cases q
  | tup h hs hp' hb hm hL =>
    cases e
    rcases hp with q | q
    · rw [h] at q; cases q
    · rw [h] at q
      cases q
      exact fun y hy => (hs y hy).ne hS fun a ha => hB a (hb a (List.mem_cons_of_mem _ ha))
  | lst h hs hp' hb hm h6 hL =>
    cases e
    rcases hp with q | q
    · rw [h] at q
      cases q
      exact fun y hy => (hs y hy).ne hS fun a ha => hB a (hb a (List.mem_cons_of_mem _ ha))
    · rw [h] at q; cases q
  | dct h hb hn hL => cases e; rcases hp with q | q <;> rw [h] at q <;> cases q
/-- an own __repr__ as it stands -/
structure RpF (P : Program) (w : World) (K : PySem.W.Frag) (mg : Str → Option Value) (base : Heap) (C : Addr) : Prop where
  ex : ∃ (fR : Addr) (fd : FuncData) (ps : List Str), FnG P w K mg base CX0 3 fR fd ps (GRepr C) (spRp (RShow C)) ∧ PySem.W.findIn K (.ref C) "__repr__" = some (some (.ref fR)) ∧ PySem.W.isFn K (.ref fR) = true ∧ Binds K fd ps []
theorem items_of {X : Cx} {as : List Addr} {xs : List V} (h : ∀ x ∈ xs, ∃ t, Rp X n as H x t ∧ t.length ≤ L) : ∃ ts, Items X n as H xs ts ∧ ts.length = xs.length ∧ ∀ t ∈ ts, t.length ≤ L := by
  obtain ⟨ts, hA⟩ := all2_of (R := fun x (t : Str) => Rp X n as H x t ∧ t.length ≤ L) h
  refine ⟨ts, ⟨hA.1.symm, fun i x hx => ?_⟩, hA.1.symm, fun t ht => ?_⟩
  · obtain ⟨t, h1, h2, _⟩ := all2_get hA hx
    exact ⟨t, h1, h2⟩
  · obtain ⟨i, hi⟩ := List.mem_iff_getElem?.mp ht
    obtain ⟨x, _, _, h2⟩ := all2_get' hA hi
    exact h2
theorem listText_up {ts : List Str} (h : ∀ t ∈ ts, t.length ≤ L) : (listText ts).length ≤ ts.length * (L + 2) + 2 := by
  have h3 := textFrom_up ts 0 "["
  have h4 := piled_up (m := L) ts h
  have h5 : (listText ts).length = (textFrom 0 "[" ts).length + 1 := by
    show (textFrom 0 "[" ts ++ "]").length = _
    rw [strLen_append]; rfl
  have e : Str.length "[" = 1 := by decide
  rw [e] at h3
  omega
theorem tupleText_up {ts : List Str} (h : ∀ t ∈ ts, t.length ≤ L) : (tupleText ts).length ≤ ts.length * (L + 2) + 3 := by
  have h1 := join_le (ws := ts) (y := ", ")
  have h2 : (ts.map (·.length)).sum ≤ ts.length * L := by
    clear h1
    induction ts with
    | nil => simp
    | cons t ts ih =>
      have a := h t (List.mem_cons_self ..)
      have b := ih fun z hz => h z (List.mem_cons_of_mem _ hz)
      simp only [List.map_cons, List.sum_cons, List.length_cons, Nat.succ_mul]
      omega
  have e1 : Str.length ", " = 2 := by decide
  have e2 : Str.length "(" = 1 := by decide
  have h3 : (Str.ofString (if ts.length == 1 then ",)" else ")" : String)).length ≤ 2 := by
    split <;> decide
  have h4 : Txt.join ", " ts = Str.join ", " ts := TL.join_eq ", " ts
  rw [e1, h4] at h1
  unfold tupleText
  rw [strLen_append, strLen_append, e2, Nat.mul_add]
  omega
theorem Sh.rp {X : Cx} (R : RpF X.prog X.w X.K X.mg X.base C) (h : Sh C S H k n L bs x) (hz : L ≤ 2000000) : ∃ t, Rp X n bs H x t ∧ t.length ≤ L := by
  induction h with
  | non h => exact ⟨_, rp_non, h⟩
  | int h => exact ⟨_, rp_int (by decide), by show Str.length (toString (5 : Int)) ≤ _; exact Nat.le_trans (by decide) h⟩
  | str h => exact ⟨_, rp_str (Nat.le_trans h (Nat.le_trans hz (by decide))), h⟩
  | @ord n L bs a ws dx l sa sl h hl hw hn hb hL =>
    obtain ⟨fR, fd, ps, F, f1, f2, f3⟩ := R.ex
    have ho : ∀ H', Ext H H' → Ord C An H' a ws := fun H' e => ⟨dx, l, trivial, trivial, e _ _ h, e _ _ hl⟩
    refine ⟨shown ws, (rp_ins (as := bs) F f1 f2 f3 pass0 h (fun H' e => ⟨ws, ho H' e, hw, rfl⟩) fun g H' hc e => ⟨a, dx, l, rfl, e _ _ h, hc l hb⟩).mono hn (fun _ q => q) Ext.rfl', ?_⟩
    obtain ⟨h1, h2, h3, h4⟩ := colsB_get hw
    have h5 := list_up h2 (fun z hz => (nameB_get (h3 z hz)).2.1) fun z hz => repr_up (nameB_get (h3 z hz)).2.1 (nameB_get (h3 z hz)).2.2
    unfold shown
    rw [strLen_append, strLen_append]
    have e1 : Str.length "Order(" = 6 := by decide
    have e2 : Str.length ")" = 1 := by decide
    rw [e1, e2]
    omega
  | @tup n m L L' as bs p xs h hs hp hb hm hL ih =>
    by_cases hx : xs = []
    · subst hx
      exact ⟨_, (rp_tup (n := n) (ts := []) hp ⟨rfl, fun i x q => by simp at q⟩ (SqT.of h)).mono hm hb Ext.rfl', by have := tupleText_up (L := 0) (ts := []) (fun t q => by cases q); simp at this hL; omega⟩
    have hpos : 0 < xs.length := List.length_pos_iff.mpr hx
    have hLL : L ≤ 2000000 := by
      have : L + 2 ≤ xs.length * (L + 2) := Nat.le_mul_of_pos_left _ hpos
      omega
    obtain ⟨ts, h1, h2, h3⟩ := items_of fun y hy => ih y hy hLL
    refine ⟨_, (rp_tup hp h1 (SqT.of h)).mono hm hb Ext.rfl', Nat.le_trans (tupleText_up h3) (by rw [h2]; exact hL)⟩
  | @lst n m L L' as bs p xs h hs hp hb hm h6 hL ih =>
    have hL2 : xs.length * (L + 2) + 3 ≤ L' := Nat.le_trans (Nat.add_le_add_right (Nat.mul_le_mul_right _ (Nat.le_add_right _ _)) _) hL
    by_cases hx : xs = []
    · subst hx
      exact ⟨_, (rp_list (n := n) (ts := []) hp ⟨rfl, fun i x q => by simp at q⟩ h).mono hm hb Ext.rfl', by have := listText_up (L := 0) (ts := []) (fun t q => by cases q); simp at this hL2; omega⟩
    have hpos : 0 < xs.length := List.length_pos_iff.mpr hx
    have hLL : L ≤ 2000000 := by
      have : L + 2 ≤ xs.length * (L + 2) := Nat.le_mul_of_pos_left _ hpos
      omega
    obtain ⟨ts, h1, h2, h3⟩ := items_of fun y hy => ih y hy hLL
    refine ⟨_, (rp_list hp h1 h).mono hm hb Ext.rfl', Nat.le_trans (listText_up h3) (by rw [h2]; omega)⟩
  | @dct n L bs p h hb hn hL => exact ⟨_, (rp_dict (as := []) h).mono hn (fun a q => by rw [List.mem_singleton.mp q]; exact hb) Ext.rfl', Nat.le_trans (by decide) hL⟩
end
/-! ### appended late -/
def lateH (H : Hp) (x : V) : Hp := match x with
  | .ref p => (match H p with
    | some (.lst xs) => upd H p (.lst (xs ++ [.str "late"]))
    | _ => H)
  | _ => H
theorem lateH_ne {H : Hp} {x : V} {a : Addr} (h : x ≠ .ref a) : lateH H x a = H a := by
  cases x with
  | ref p =>
    have hp : p ≠ a := fun q => h (by rw [q])
    unfold lateH
    cases e : H p with
    | none => simp only [e]
    | some u =>
      cases u with
      | lst xs => simp only [e]; exact upd_ne hp.symm
      | _ => simp only [e]
  | _ => rfl
theorem lateH_eq {H : Hp} {a : Addr} {u : HO} (h : H a = some u) : lateH H (.ref a) a = some u ∨ ∃ xs, u = .lst xs ∧ lateH H (.ref a) a = some (.lst (xs ++ [.str "late"])) := by
  unfold lateH
  simp only
  cases u with
  | lst xs => exact .inr ⟨xs, rfl, by rw [h]; exact upd_same⟩
  | _ => exact .inl (by simp only [h])
theorem late3 {S : Addr → Prop} {H : Hp} {t m o : V} (d12 : ∀ p, t = .ref p → m ≠ .ref p) (d13 : ∀ p, t = .ref p → o ≠ .ref p) (d23 : ∀ p, m = .ref p → o ≠ .ref p) (st : ∀ p, t = .ref p → ¬ S p) (sm : ∀ p, m = .ref p → ¬ S p) (so : ∀ p, o = .ref p → ¬ S p) :
    Late S H (lateH (lateH (lateH H t) m) o) := by
  intro a u h
  by_cases h1 : t = .ref a
  · rw [lateH_ne (d13 a h1), lateH_ne (d12 a h1), h1]
    rcases lateH_eq h with q | ⟨xs, q1, q2⟩
    · exact .inl q
    · exact .inr ⟨st a h1, xs, q1, q2⟩
  have e1 : lateH H t a = some u := (lateH_ne h1).trans h
  by_cases h2 : m = .ref a
  · rw [lateH_ne (d23 a h2), h2]
    rcases lateH_eq e1 with q | ⟨xs, q1, q2⟩
    · exact .inl q
    · exact .inr ⟨sm a h2, xs, q1, q2⟩
  have e2 : lateH (lateH H t) m a = some u := (lateH_ne h2).trans e1
  by_cases h3 : o = .ref a
  · rw [h3]
    rcases lateH_eq e2 with q | ⟨xs, q1, q2⟩
    · exact .inl q
    · exact .inr ⟨so a h3, xs, q1, q2⟩
  exact .inl ((lateH_ne h3).trans e2)
/-! ### kept -/
theorem box_lst {H : Hp} {b : Addr} {n : Nat} (h : BoxOk H b n) : ∃ xs, H b = some (.lst xs) := let ⟨x, y, z, h, _⟩ := h; ⟨_, h⟩
section
variable {C b : Addr} {H H' : Hp} {n : Nat} {x : V}
theorem ItemV.kpt {i : IK} (h : ItemV C H x i) (hb : BoxOk H b n) (k : KpT b H H') : ItemV C H' x i := by
  obtain ⟨xs, hx⟩ := box_lst hb
  cases i with
  | s z => exact h
  | n => exact h
  | o =>
    obtain ⟨a, dx, fs, e, h⟩ := h
    exact ⟨a, dx, fs, e, k _ _ (fun q => by rw [q, hx] at h; cases h) (fun ps z => by cases z) h⟩
theorem StepQ.kpt {r : Bool} (h : StepQ C H x r) (hb : BoxOk H b n) (k : KpT b H H') (hn : x ≠ .ref b) : StepQ C H' x r := by
  obtain ⟨xs, hx⟩ := box_lst hb
  cases h with
  | tup h hk hz => exact .tup (k _ _ (fun q => by rw [q, hx] at h; cases h) tup_nt h) (hk.imp fun _ _ i => i.kpt hb k) hz
  | lst h => exact .lst (k _ _ (fun q => hn (by rw [q])) lst_nt h)
  | non => exact .non
  | int i => exact .int i
  | str z => exact .str z
  | dct h => exact .dct (k _ _ (fun q => by rw [q, hx] at h; cases h) (fun ps z => by cases z) h)
theorem Lty.kpt {K : PySem.W.Frag} {r : Bool} (h : Lty K H x r) (hb : BoxOk H b n) (k : KpT b H H') (hn : x ≠ .ref b) : Lty K H' x r := by
  obtain ⟨xs, hx⟩ := box_lst hb
  cases h with
  | lst h => exact .lst (k _ _ (fun q => hn (by rw [q])) lst_nt h)
  | tup h => exact .tup (k _ _ (fun q => by rw [q, hx] at h; cases h) tup_nt h)
  | non => exact .non
  | int i => exact .int i
  | str z => exact .str z
  | dct h => exact .dct (k _ _ (fun q => by rw [q, hx] at h; cases h) (fun ps z => by cases z) h)
theorem LoT.kpt {p : Addr} {xs : List V} (h : LoT H p xs) (k : KpT b H H') (hn : p ≠ b) : LoT H' p xs := h.imp (k _ _ hn lst_nt) (k _ _ hn tup_nt)
theorem BadS.kpt {K : PySem.W.Frag} (h : BadS K C H x) (hb : BoxOk H b n) (k : KpT b H H') (hn : x ≠ .ref b) (hy : ∀ p xs, x = .ref p → LoT H p xs → ∀ y ∈ xs, y ≠ .ref b) : BadS K C H' x := by
  cases h with
  | no h => exact .no (h.kpt hb k hn)
  | long h hl => exact .long (h.kpt k fun q => hn (by rw [q])) hl
  | item h hb' hf hl => exact .item (h.kpt k fun q => hn (by rw [q])) ⟨hb'.1, fun i y r h1 h2 => (hb'.2 i y r h1 h2).kpt hb k (hy _ _ rfl h y (List.mem_of_getElem? h1))⟩ hf hl
theorem NStr.kpt (h : NStr H x) (hb : BoxOk H b n) (k : KpT b H H') (hn : x ≠ .ref b) : NStr H' x := by
  obtain ⟨xs, hx⟩ := box_lst hb
  cases h with
  | lst h => exact .lst (k _ _ (fun q => hn (by rw [q])) lst_nt h)
  | tup h => exact .tup (k _ _ (fun q => by rw [q, hx] at h; cases h) tup_nt h)
  | non => exact .non
  | int i => exact .int i
  | dct h => exact .dct (k _ _ (fun q => by rw [q, hx] at h; cases h) (fun ps z => by cases z) h)
end
/-- the kinds -/
inductive Kd (H : Hp) : V → Prop where
  | non : Kd H .non
  | int (i : Int) : Kd H (.int i)
  | str (z : Str) : Kd H (.str z)
  | lst {a : Addr} {xs : List V} (h : H a = some (.lst xs)) : Kd H (.ref a)
  | tup {a : Addr} {xs : List V} (h : H a = some (.tup xs)) : Kd H (.ref a)
  | dct {a : Addr} {kvs : List (Key × V)} (h : H a = some (.dK kvs)) : Kd H (.ref a)
theorem StepQ.kd {C : Addr} {H : Hp} {x : V} {r : Bool} (h : StepQ C H x r) : Kd H x := by
  cases h with
  | tup h _ _ => exact .tup h
  | lst h => exact .lst h
  | non => exact .non
  | int i => exact .int i
  | str z => exact .str z
  | dct h => exact .dct h
theorem BadS.kd {K : PySem.W.Frag} {C : Addr} {H : Hp} {x : V} (h : BadS K C H x) : Kd H x := by
  cases h with
  | no h =>
    cases h with
    | non => exact .non
    | int i => exact .int i
    | str z => exact .str z
    | dct h => exact .dct h
  | long h _ => exact h.elim .lst .tup
  | item h _ _ _ => exact h.elim .lst .tup
theorem NStr.kd {H : Hp} {x : V} (h : NStr H x) : Kd H x := by
  cases h with
  | lst h => exact .lst h
  | tup h => exact .tup h
  | non => exact .non
  | int i => exact .int i
  | dct h => exact .dct h
theorem Kd.late {H H' : Hp} {x y : V} (h : Kd H x) (hn : ∀ p, x = .ref p → y ≠ .ref p) : Kd (lateH H y) x := by
  cases h with
  | non => exact .non
  | int i => exact .int i
  | str z => exact .str z
  | lst h => exact .lst ((lateH_ne (hn _ rfl)).trans h)
  | tup h => exact .tup ((lateH_ne (hn _ rfl)).trans h)
  | dct h => exact .dct ((lateH_ne (hn _ rfl)).trans h)
end S78
/-! H5b: the values that are refused. -/
namespace S78
open PySem PySem.Spec PyProof.Rows L2 SN HotX L2H RP Builtin Builtin.List
/-- something other than the box and a table stands at a -/
def Nt (b : Addr) (H : Hp) (a : Addr) : Prop := a ≠ b ∧ ∃ o, H a = some o ∧ ∀ ps, o ≠ .tbl ps
theorem Nt.kpt {b a : Addr} {H H' : Hp} (h : Nt b H a) (k : KpT b H H') : Nt b H' a := let ⟨h1, o, h2, h3⟩ := h; ⟨h1, o, k _ _ h1 h3 h2, h3⟩
theorem Nt.ne {b a p : Addr} {H : Hp} (h : Nt b H a) (hp : H p = none) : p ≠ a := fun q => by
  obtain ⟨_, o, h2, _⟩ := h
  rw [← q, hp] at h2
  cases h2
theorem nt_tup {b p : Addr} {H : Hp} {xs : List V} (h : H p = some (.tup xs)) (hn : p ≠ b) : Nt b H p := ⟨hn, _, h, tup_nt⟩
theorem nt_lst {b p : Addr} {H : Hp} {xs : List V} (h : H p = some (.lst xs)) (hn : p ≠ b) : Nt b H p := ⟨hn, _, h, lst_nt⟩
theorem Sh.weak {C : Addr} {S : Addr → Prop} {H : Hp} {k n n' L L' : Nat} {bs bs' : List Addr} {x : V} (h : Sh C S H k n L bs x) (hn : n ≤ n') (hL : L ≤ L') (hb : ∀ a ∈ bs, a ∈ bs') : Sh C S H k n' L' bs' x := by
  cases h with
  | non h => exact .non (Nat.le_trans h hL)
  | int h => exact .int (Nat.le_trans h hL)
  | str h => exact .str (Nat.le_trans h hL)
  | ord dx l sa sl h hl hw hn' hb' hL' => exact .ord dx l sa sl h hl hw (Nat.le_trans hn' hn) (hb _ hb') (Nat.le_trans hL' hL)
  | tup h hs hp hb' hm hL' => exact .tup h hs hp (fun a ha => hb a (hb' a ha)) (Nat.le_trans hm hn) (Nat.le_trans hL' hL)
  | lst h hs hp hb' hm h6 hL' => exact .lst h hs hp (fun a ha => hb a (hb' a ha)) (Nat.le_trans hm hn) h6 (Nat.le_trans hL' hL)
  | dct h hb' hn' hL' => exact .dct h (hb _ hb') (Nat.le_trans hn' hn) (Nat.le_trans hL' hL)
/-- a value to be shown; a reference was not there at Hc -/
def VOk (C : Addr) (S : Addr → Prop) (b : Addr) (Hc H : Hp) (n L : Nat) (x : V) : Prop := ∃ bs, Sh C S H 1 n L bs x ∧ (∀ a ∈ bs, Nt b H a) ∧ ∀ p, x = .ref p → Hc p = none
section
variable {C b : Addr} {S : Addr → Prop} {Hc H H' : Hp} {n L : Nat} {x : V}
theorem VOk.kpt (h : VOk C S b Hc H n L x) (k : KpT b H H') (hS : ∀ a, S a → a ≠ b) : VOk C S b Hc H' n L x := by
  obtain ⟨bs, h1, h2, h3⟩ := h
  exact ⟨bs, h1.mono k hS fun a ha => (h2 a ha).1, fun a ha => (h2 a ha).kpt k, h3⟩
theorem VOk.ne (h : VOk C S b Hc H n L x) (hS : ∀ a, S a → a ≠ b) : x ≠ .ref b := by
  obtain ⟨bs, h1, h2, h3⟩ := h
  exact h1.ne hS fun a ha => (h2 a ha).1
theorem VOk.nb (h : VOk C S b Hc H n L x) (hS : ∀ a, S a → a ≠ b) : ∀ p xs, x = .ref p → LoT H p xs → ∀ y ∈ xs, y ≠ .ref b := fun p xs e hp => by
  obtain ⟨bs, h1, h2, h3⟩ := h
  exact h1.nb hS (fun a ha => (h2 a ha).1) e hp
theorem vok_non (h : 4 ≤ L) : VOk C S b Hc H n L .non := ⟨[], .non h, fun a q => (by cases q), fun p q => (by cases q)⟩
theorem vok_int (h : 4 ≤ L) : VOk C S b Hc H n L (.int 5) := ⟨[], .int (Nat.le_trans (by decide) h), fun a q => (by cases q), fun p q => (by cases q)⟩
theorem vok_str {z : Str} (h : (reprText z).length ≤ L) : VOk C S b Hc H n L (.str z) := ⟨[], .str h, fun a q => (by cases q), fun p q => (by cases q)⟩
theorem vok_dct {p : Addr} (h : H p = some (.dK [])) (hb : p ≠ b) (hc : Hc p = none) (hn : 1 ≤ n) (hL : 4 ≤ L) : VOk C S b Hc H n L (.ref p) :=
  ⟨[p], .dct h (List.mem_cons_self ..) hn (Nat.le_trans (by decide) hL), fun a q => (by rw [List.mem_singleton.mp q]; exact ⟨hb, _, h, fun ps z => by cases z⟩), fun q e => (by cases e; exact hc)⟩
/-- the order in the tuples -/
structure OrdS (C : Addr) (S : Addr → Prop) (b : Addr) (H : Hp) (o l : Addr) : Prop where
  so : S o
  sl : S l
  ex : ∃ dx ws, H o = some (.ins C dx [("own_columns", .ref l)]) ∧ H l = some (.lst (ws.map V.str)) ∧ colsB ws = true
  nb : l ≠ b
  nbo : o ≠ b
theorem OrdS.sh {o l : Addr} (h : OrdS C S b H o l) {k : Nat} {as : List Addr} (hm : l ∈ as) (hn : 3 ≤ n) (hL : 510 ≤ L) : Sh C S H k n L as (.ref o) := by
  obtain ⟨dx, ws, h1, h2, h3⟩ := h.ex
  exact .ord dx l h.so h.sl h1 h2 h3 hn hm hL
theorem OrdS.kpt {o l : Addr} (h : OrdS C S b H o l) (k : KpT b H H') : OrdS C S b H' o l := by
  obtain ⟨dx, ws, h1, h2, h3⟩ := h.ex
  exact ⟨h.so, h.sl, ⟨dx, ws, k _ _ h.nbo (fun ps z => by cases z) h1, k _ _ h.nb lst_nt h2, h3⟩, h.nb, h.nbo⟩
theorem OrdS.nt {o l : Addr} (h : OrdS C S b H o l) : Nt b H l := let ⟨_, _, _, h2, _⟩ := h.ex; nt_lst h2 h.nb
def ItS (o : Addr) (x : V) : Prop := x = .ref o ∨ x = .non ∨ ∃ z, x = .str z ∧ (reprText z).length ≤ 510
theorem ItS.sh {o l : Addr} {x : V} (h : ItS o x) (q : OrdS C S b H o l) {k : Nat} : Sh C S H k 3 510 [l] x := by
  rcases h with rfl | rfl | ⟨z, rfl, hz⟩
  · exact q.sh (List.mem_cons_self ..) (by decide) (by decide)
  · exact .non (by decide)
  · exact .str hz
theorem vok_t {o l p : Addr} {xs : List V} (q : OrdS C S b H o l) (h : H p = some (.tup xs)) (hp : p ≠ b) (hc : Hc p = none) (hx : ∀ x ∈ xs, ItS o x) (hl : xs.length ≤ 3) : VOk C S b Hc H 4 1600 (.ref p) := by
  have hpl : p ≠ l := fun z => by
    obtain ⟨_, _, _, h2, _⟩ := q.ex
    rw [← z, h] at h2
    cases h2
  refine ⟨[p, l], .tup (as := [l]) h (fun x hm => (hx x hm).sh q) (by simpa using hpl) (fun a ha => ha) (by decide) ?_, fun a ha => ?_, fun r e => by cases e; exact hc⟩
  · have := Nat.mul_le_mul_right 512 hl
    omega
  · rcases List.mem_cons.mp ha with rfl | ha
    · exact nt_tup h hp
    · rw [List.mem_singleton.mp ha]; exact q.nt
theorem vok_l {o l p : Addr} {xs : List V} (q : OrdS C S b H o l) (h : H p = some (.lst xs)) (hp : p ≠ b) (hpl : p ≠ l) (hc : Hc p = none) (hx : ∀ x ∈ xs, ItS o x) (hl : xs.length ≤ 2) : VOk C S b Hc H 4 1600 (.ref p) := by
  refine ⟨[p, l], .lst (as := [l]) h (fun x hm => (hx x hm).sh q) (by simpa using hpl) (fun a ha => ha) (by decide) (by decide) ?_, fun a ha => ?_, fun r e => by cases e; exact hc⟩
  · have := Nat.mul_le_mul_right 512 (Nat.add_le_add_right hl 1)
    omega
  · rcases List.mem_cons.mp ha with rfl | ha
    · exact nt_lst h hp
    · rw [List.mem_singleton.mp ha]; exact q.nt
/-- the step itself -/
def StS (C : Addr) (S : Addr → Prop) (b : Addr) (H : Hp) (v : V) : Prop := ∃ bs, Sh C S H 1 4 1600 bs v ∧ (∀ a ∈ bs, Nt b H a)
theorem StS.kpt {v : V} (h : StS C S b H v) (k : KpT b H H') (hS : ∀ a, S a → a ≠ b) : StS C S b H' v := by
  obtain ⟨bs, h1, h2⟩ := h
  exact ⟨bs, h1.mono k hS fun a ha => (h2 a ha).1, fun a ha => (h2 a ha).kpt k⟩
theorem VOk.sts (h : VOk C S b Hc H 4 1600 x) : StS C S b H x := let ⟨bs, h1, h2, _⟩ := h; ⟨bs, h1, h2⟩
/-- a list of such -/
theorem vok_list {p : Addr} {xs : List V} (h : H p = some (.lst xs)) (hp : p ≠ b) (hc : Hc p = none) {bs : List Addr} (hb : ∀ a ∈ bs, Nt b Hc a ∧ Nt b H a) (hx : ∀ x ∈ xs, Sh C S H 1 4 1600 bs x) (hl : xs.length ≤ 101) : VOk C S b Hc H 5 200000 (.ref p) := by
  refine ⟨p :: bs, .lst (as := bs) h hx (fun z => (hb p z).1.ne hc rfl) (fun a ha => ha) (by decide) (by decide) ?_, fun a ha => ?_, fun r e => by cases e; exact hc⟩
  · have := Nat.mul_le_mul_right 1602 (Nat.add_le_add_right hl 1)
    omega
  · rcases List.mem_cons.mp ha with rfl | ha
    · exact nt_lst h hp
    · exact (hb a ha).2
theorem vok_tuple {p : Addr} {xs : List V} (h : H p = some (.tup xs)) (hp : p ≠ b) (hc : Hc p = none) {bs : List Addr} (hn : p ∉ bs) (hb : ∀ a ∈ bs, Nt b H a) (hx : ∀ x ∈ xs, Sh C S H 1 4 1600 bs x) (hl : xs.length ≤ 101) : VOk C S b Hc H 5 200000 (.ref p) := by
  refine ⟨p :: bs, .tup (as := bs) h hx hn (fun a ha => ha) (by decide) ?_, fun a ha => ?_, fun r e => by cases e; exact hc⟩
  · have := Nat.mul_le_mul_right 1602 hl
    omega
  · rcases List.mem_cons.mp ha with rfl | ha
    · exact nt_tup h hp
    · exact hb a ha
/-- a step that was just made -/
theorem step_sh {v : V} {st : Str × List (List Str)} {S0 : Addr → Prop} (h : Stp C S0 H v st) (ok : okSt st) (hS : ∀ a, S0 a → a ≠ b) (hNt : ∀ a, S0 a → Nt b H a → S a) : ∃ pv o l os, v = .ref pv ∧ H pv = some (.tup (.str st.1 :: .ref o :: os)) ∧ OrdS C S b H o l ∧ StS C S b H v ∧ (∀ a, v = .ref a → a ≠ b) := by
  obtain ⟨pv, os, rfl, h1, h2, h3⟩ := h
  have hcols := (okSt_all ok).1
  have key : ∀ x ∈ os, ∃ o l, x = .ref o ∧ OrdS C S b H o l := fun x hx => by
    obtain ⟨i, hi⟩ := List.mem_iff_getElem?.mp hx
    obtain ⟨ws, hw, a, rfl, dx, l, s1, s2, g1, g2⟩ := all2_get h3 hi
    exact ⟨a, l, rfl, hNt a s1 ⟨hS a s1, _, g1, fun ps z => by cases z⟩, hNt l s2 (nt_lst g2 (hS l s2)), ⟨dx, ws, g1, g2, hcols ws (List.mem_of_getElem? hw)⟩, hS l s2, hS a s1⟩
  have hlen : os.length ≤ 2 := by rw [h3.1]; exact (okSt_all ok).2.2.1
  have hw : (reprText st.1).length ≤ 510 := by
    rcases ok with ⟨h | h, _⟩ | ⟨h, _⟩ <;> rw [h] <;> decide +kernel
  cases os with
  | nil =>
    have a := h3.1
    have b := (okSt_all ok).2.1
    simp at a
    omega
  | cons x os =>
    obtain ⟨o, l, rfl, qo⟩ := key x (List.mem_cons_self ..)
    refine ⟨pv, o, l, os, rfl, h2, qo, ?_, fun a e => by cases e; exact hS _ h1⟩
    have hpv : ∀ l', Nt b H l' → (∃ ys, H l' = some (.lst ys)) → pv ≠ l' := fun l' _ ⟨ys, q⟩ z => by rw [← z, h2] at q; cases q
    cases os with
    | nil =>
      refine ⟨[pv, l], .tup (as := [l]) h2 (fun x hm => ?_) (by obtain ⟨_, _, _, q, _⟩ := qo.ex; simpa using hpv l qo.nt ⟨_, q⟩) (fun a ha => ha) (n := 3) (L := 510) (by decide) (by show 2 * 512 + 3 ≤ 1600; decide), fun a ha => ?_⟩
      · rcases List.mem_cons.mp hm with rfl | hm
        · exact .str hw
        · rw [List.mem_singleton.mp hm]; exact qo.sh (List.mem_cons_self ..) (by decide) (by decide)
      · rcases List.mem_cons.mp ha with rfl | ha
        · exact nt_tup h2 (hS _ h1)
        · rw [List.mem_singleton.mp ha]; exact qo.nt
    | cons y os =>
      obtain ⟨o2, l2, rfl, qo2⟩ := key y (List.mem_cons_of_mem _ (List.mem_cons_self ..))
      obtain rfl : os = [] := by
        cases os with
        | nil => rfl
        | cons _ _ => simp at hlen
      refine ⟨[pv, l, l2], .tup (as := [l, l2]) h2 (fun x hm => ?_) (by obtain ⟨_, _, _, q, _⟩ := qo.ex; obtain ⟨_, _, _, q2, _⟩ := qo2.ex; simpa using ⟨hpv l qo.nt ⟨_, q⟩, hpv l2 qo2.nt ⟨_, q2⟩⟩) (fun a ha => ha) (n := 3) (L := 510) (by decide) (by show 3 * 512 + 3 ≤ 1600; decide), fun a ha => ?_⟩
      · rcases List.mem_cons.mp hm with rfl | hm
        · exact .str hw
        · rcases List.mem_cons.mp hm with rfl | hm
          · exact qo.sh (List.mem_cons_self ..) (by decide) (by decide)
          · rw [List.mem_singleton.mp hm]; exact qo2.sh (by simp) (by decide) (by decide)
      · rcases List.mem_cons.mp ha with rfl | ha
        · exact nt_tup h2 (hS _ h1)
        · rcases List.mem_cons.mp ha with rfl | ha
          · exact qo.nt
          · rw [List.mem_singleton.mp ha]; exact qo2.nt
end
section
open TL
theorem text_small {st : Str × List (List Str)} (ok : okSt st) {c : Nat} (hc : c ∈ tl (stText st)) : c < 200 := by
  obtain ⟨w, oss⟩ := st
  have wn : ∀ x : Str, (x = "build" ∨ x = "drop" ∨ x = "relay") → c ∈ tl x → c < 200 := by
    intro x hx hcx
    rcases hx with rfl | rfl | rfl
    · have h : ∀ d ∈ tl ("build" : Str), d < 200 := by decide
      exact h c hcx
    · have h : ∀ d ∈ tl ("drop" : Str), d < 200 := by decide
      exact h c hcx
    · have h : ∀ d ∈ tl ("relay" : Str), d < 200 := by decide
      exact h c hcx
  have nm : ∀ {W : List Str}, colsB W = true → ∀ p ∈ W, c ∈ tl p → c < 200 := fun hW p hp hcp => by
    have := name_sign ((colsB_get hW).2.2.1 p hp) hcp
    omega
  have sp : c ∈ tl (" " : Str) → c < 200 := fun h => by
    rw [show tl (" " : Str) = [32] from sp_tl, List.mem_singleton] at h
    omega
  rcases ok with ⟨h1, ws, h2, h3⟩ | ⟨h1, ws, os, h2, h3, h4⟩
  · simp only at h1 h2
    subst h2
    rw [stText_one (cols_ne h3), join_eq] at hc
    rcases mem_join hc with hq | ⟨p, hp, hq⟩
    · exact sp hq
    · rcases List.mem_cons.mp hp with rfl | hp
      · exact wn _ (h1.elim .inl fun h => .inr (.inl h)) hq
      · exact nm h3 p hp hq
  · simp only at h1 h2
    subst h1 h2
    rw [stText_two (cols_ne h3) (cols_ne h4), join_eq] at hc
    rcases mem_join hc with hq | ⟨p, hp, hq⟩
    · exact sp hq
    · rcases List.mem_cons.mp hp with rfl | hp
      · exact wn _ (.inr (.inr rfl)) hq
      · rcases List.mem_append.mp hp with hp | hp
        · exact nm h3 p hp hq
        · rcases List.mem_cons.mp hp with rfl | hp
          · have h : ∀ d ∈ tl (">" : Str), d < 200 := by decide
            exact h c hq
          · exact nm h4 p hp hq
end
theorem repr_line {st : Str × List (List Str)} (ok : okSt st) : (reprText (stText st)).length ≤ 1022 := by
  have h1 := StrLaws.reprText_len (stText st) fun c hc => Nat.lt_of_lt_of_le (text_small ok hc) (by decide)
  have h2 := stText_len ok
  omega
end S78
/-! H5c: two lists shown alike. -/
namespace S78
open PySem PySem.Spec PyProof.Rows L2 SN HotX L2H RP Builtin Builtin.List
section
variable {C b : Addr} {S : Addr → Prop} {H H' : Hp}
theorem kpt_set {G : Addr} {o' : HO} (k : KpT b H H') (h : ¬ Nt b H G) (hb : G ≠ b) : KpT b H (upd H' G o') := fun a o n t e => by
  have hn : a ≠ G := fun z => h ⟨hb, o, by rw [← z]; exact e, t⟩
  rw [upd_ne hn]
  exact k a o n t e
theorem not_nt {G : Addr} (k : KpT b H H') (h : H' G = none) : ¬ Nt b H G := fun z => (z.kpt k).ne h rfl
theorem Kd.nt {x : V} (h : Kd H x) (hn : x ≠ .ref b) : ∀ p, x = .ref p → Nt b H p := fun p e => by
  cases h with
  | non => cases e
  | int i => cases e
  | str z => cases e
  | lst h => cases e; exact nt_lst h fun z => hn (by rw [z])
  | tup h => cases e; exact nt_tup h fun z => hn (by rw [z])
  | dct h => cases e; exact ⟨fun z => hn (by rw [z]), _, h, fun ps z => by cases z⟩
/-- what was found, or is due -/
structure Fnd (H : Hp) (G l1 l2 l3 l4 : Addr) (x m od : V) : Prop where
  hG : H G = some (.lst [.ref l1, .ref l2, .ref l3, .ref l4])
  h1 : H l1 = some (.lst [.str "steps", x])
  h2 : H l2 = some (.lst [.str "steps", m])
  h3 : H l3 = some (.lst [.str "text", od])
  h4 : H l4 = some (.lst [.str "text", od])
structure Dis (G l1 l2 l3 l4 : Addr) (bx bm bo : List Addr) : Prop where
  d1 : l1 ∉ bx
  d2 : l2 ∉ bm
  d3 : l3 ∉ bo
  d4 : l4 ∉ bo
  gx : G ∉ bx
  gm : G ∉ bm
  go : G ∉ bo
  g1 : G ≠ l1
  g2 : G ≠ l2
  g3 : G ≠ l3
  g4 : G ≠ l4
theorem Fnd.ext {G l1 l2 l3 l4 : Addr} {x m od : V} (h : Fnd H G l1 l2 l3 l4 x m od) (e : Ext H H') : Fnd H' G l1 l2 l3 l4 x m od := ⟨e _ _ h.hG, e _ _ h.h1, e _ _ h.h2, e _ _ h.h3, e _ _ h.h4⟩
theorem Fnd.late {G l1 l2 l3 l4 : Addr} {x m od y : V} (h : Fnd H G l1 l2 l3 l4 x m od) (hG : y ≠ .ref G) (h1 : y ≠ .ref l1) (h2 : y ≠ .ref l2) (h3 : y ≠ .ref l3) (h4 : y ≠ .ref l4) : Fnd (lateH H y) G l1 l2 l3 l4 x m od :=
  ⟨(lateH_ne hG).trans h.hG, (lateH_ne h1).trans h.h1, (lateH_ne h2).trans h.h2, (lateH_ne h3).trans h.h3, (lateH_ne h4).trans h.h4⟩
def allText (t1 t2 t3 : Str) : Str := listText [listText [reprText "steps", t1], listText [reprText "steps", t2], listText [reprText "text", t3], listText [reprText "text", t3]]
theorem two_up {a b : Str} {L : Nat} (h1 : a.length ≤ L) (h2 : b.length ≤ L) : (listText [a, b]).length ≤ 2 * (L + 2) + 2 := listText_up (ts := [a, b]) fun t ht => by
  rcases List.mem_cons.mp ht with rfl | ht
  · exact h1
  · rw [List.mem_singleton.mp ht]; exact h2
theorem rp_pair {X : Cx} {l : Addr} {as : List Addr} {x : V} {w t : Str} {n : Nat} (hl : H l = some (.lst [.str w, x])) (hw : (reprText w).length ≤ 20) (hx : Rp X n as H x t) (hn : l ∉ as) : Rp X (n + 1) (l :: as) H (.ref l) (listText [reprText w, t]) := by
  refine rp_list hn ⟨rfl, fun i y hy => ?_⟩ hl
  match i, hy with
  | 0, hy =>
    cases hy
    exact ⟨_, rfl, rp_str (Nat.le_trans hw (by decide))⟩
  | 1, hy =>
    cases hy
    exact ⟨_, rfl, hx⟩
theorem fnd_repr {X : Cx} {G l1 l2 l3 l4 : Addr} {x m od : V} {bx bm bo : List Addr} {t1 t2 t3 : Str} (f : Fnd H G l1 l2 l3 l4 x m od) (d : Dis G l1 l2 l3 l4 bx bm bo) (r1 : Rp X 5 bx H x t1) (r2 : Rp X 5 bm H m t2) (r3 : Rp X 5 bo H od t3)
    (z1 : t1.length ≤ 200000) (z2 : t2.length ≤ 200000) (z3 : t3.length ≤ 200000) {Q : VK} (hQ : ∀ H', Ext H H' → Q (.str (allText t1 t2 t3)) H') : rRepr X 6 [.ref G] H Q := by
  have ws : (reprText "steps").length ≤ 20 := by decide +kernel
  have wt : (reprText "text").length ≤ 20 := by decide +kernel
  have e1 := rp_pair f.h1 ws r1 d.d1
  have e2 := rp_pair f.h2 ws r2 d.d2
  have e3 := rp_pair f.h3 wt r3 d.d3
  have e4 := rp_pair f.h4 wt r3 d.d4
  refine ⟨G, _, _, (l1 :: bx) ++ ((l2 :: bm) ++ ((l3 :: bo) ++ (l4 :: bo))), rfl, f.hG, by simp, ?_, ⟨rfl, fun i y hy => ?_⟩, ?_, hQ⟩
  · intro z
    simp only [List.mem_append, List.mem_cons] at z
    rcases z with (z | z) | (z | z) | (z | z) | (z | z)
    · exact d.g1 z
    · exact d.gx z
    · exact d.g2 z
    · exact d.gm z
    · exact d.g3 z
    · exact d.go z
    · exact d.g4 z
    · exact d.go z
  · match i, hy with
    | 0, hy => cases hy; exact ⟨_, rfl, e1.mono (Nat.le_refl _) (fun a ha => by simp only [List.mem_append]; exact .inl ha) Ext.rfl'⟩
    | 1, hy => cases hy; exact ⟨_, rfl, e2.mono (Nat.le_refl _) (fun a ha => by simp only [List.mem_append]; exact .inr (.inl ha)) Ext.rfl'⟩
    | 2, hy => cases hy; exact ⟨_, rfl, e3.mono (Nat.le_refl _) (fun a ha => by simp only [List.mem_append]; exact .inr (.inr (.inl ha))) Ext.rfl'⟩
    | 3, hy => cases hy; exact ⟨_, rfl, e4.mono (Nat.le_refl _) (fun a ha => by simp only [List.mem_append]; exact .inr (.inr (.inr ha))) Ext.rfl'⟩
  · have w1 := two_up (L := 200000) (Nat.le_trans ws (by decide)) z1
    have w2 := two_up (L := 200000) (Nat.le_trans ws (by decide)) z2
    have w3 := two_up (L := 200000) (Nat.le_trans wt (by decide)) z3
    have w4 := listText_up (L := 2 * (200000 + 2) + 2) (ts := [listText [reprText "steps", t1], listText [reprText "steps", t2], listText [reprText "text", t3], listText [reprText "text", t3]]) fun t ht => by
      simp only [List.mem_cons, List.not_mem_nil, or_false] at ht
      rcases ht with rfl | rfl | rfl | rfl <;> assumption
    exact Nat.le_trans w4 (by show 4 * (2 * (200000 + 2) + 2 + 2) + 2 ≤ sizeLine; decide)
end
end S78
/-! H5d: as H5b, and where the places come from. -/
namespace S78
open PySem PySem.Spec PyProof.Rows L2 SN HotX L2H RP Builtin Builtin.List
section
variable {C b : Addr} {S : Addr → Prop} {Hc H H' : Hp} {k n L : Nat} {x : V} {bs : List Addr}
theorem Sh.mono2 (h : Sh C S H k n L bs x) (e : ∀ a, (a ∈ bs ∨ S a) → ∀ o, (∀ ps, o ≠ .tbl ps) → H a = some o → H' a = some o) : Sh C S H' k n L bs x := by
  induction h with
  | non h => exact .non h
  | int h => exact .int h
  | str h => exact .str h
  | ord dx l sa sl h hl hw hn hb hL => exact .ord dx l sa sl (e _ (.inr sa) _ (fun ps z => by cases z) h) (e _ (.inr sl) _ lst_nt hl) hw hn hb hL
  | tup h hs hp hb hm hL ih => exact .tup (e _ (.inl (hb _ (List.mem_cons_self ..))) _ tup_nt h) (fun y hy => ih y hy fun a ha => e a (ha.imp (fun z => hb a (List.mem_cons_of_mem _ z)) id)) hp hb hm hL
  | lst h hs hp hb hm h6 hL ih => exact .lst (e _ (.inl (hb _ (List.mem_cons_self ..))) _ lst_nt h) (fun y hy => ih y hy fun a ha => e a (ha.imp (fun z => hb a (List.mem_cons_of_mem _ z)) id)) hp hb hm h6 hL
  | dct h hb hn hL => exact .dct (e _ (.inl hb) _ (fun ps z => by cases z) h) hb hn hL
def VO2 (C : Addr) (S : Addr → Prop) (b : Addr) (Hc H : Hp) (n L : Nat) (x : V) : Prop := ∃ bs, Sh C S H 1 n L bs x ∧ (∀ a ∈ bs, Nt b H a) ∧ (∀ p, x = .ref p → Hc p = none) ∧ ∀ a ∈ bs, Hc a = none ∨ S a
theorem VO2.vok (h : VO2 C S b Hc H n L x) : VOk C S b Hc H n L x := let ⟨bs, h1, h2, h3, _⟩ := h; ⟨bs, h1, h2, h3⟩
theorem vo2_non (h : 4 ≤ L) : VO2 C S b Hc H n L .non := ⟨[], .non h, fun a q => (by cases q), fun p q => (by cases q), fun a q => (by cases q)⟩
theorem vo2_int (h : 4 ≤ L) : VO2 C S b Hc H n L (.int 5) := ⟨[], .int (Nat.le_trans (by decide) h), fun a q => (by cases q), fun p q => (by cases q), fun a q => (by cases q)⟩
theorem vo2_dct {p : Addr} (h : H p = some (.dK [])) (hb : p ≠ b) (hc : Hc p = none) (hn : 1 ≤ n) (hL : 4 ≤ L) : VO2 C S b Hc H n L (.ref p) :=
  ⟨[p], .dct h (List.mem_cons_self ..) hn (Nat.le_trans (by decide) hL), fun a q => (by rw [List.mem_singleton.mp q]; exact ⟨hb, _, h, fun ps z => by cases z⟩), fun q e => (by cases e; exact hc), fun a q => (by rw [List.mem_singleton.mp q]; exact .inl hc)⟩
theorem vo2_t {o l p : Addr} {xs : List V} (q : OrdS C S b H o l) (h : H p = some (.tup xs)) (hp : p ≠ b) (hc : Hc p = none) (hx : ∀ x ∈ xs, ItS o x) (hl : xs.length ≤ 3) : VO2 C S b Hc H 4 1600 (.ref p) := by
  have hpl : p ≠ l := fun z => by
    obtain ⟨_, _, _, h2, _⟩ := q.ex
    rw [← z, h] at h2
    cases h2
  refine ⟨[p, l], .tup (as := [l]) h (fun x hm => (hx x hm).sh q) (by simpa using hpl) (fun a ha => ha) (by decide) ?_, fun a ha => ?_, fun r e => (by cases e; exact hc), fun a ha => ?_⟩
  · have := Nat.mul_le_mul_right 512 hl
    omega
  · rcases List.mem_cons.mp ha with rfl | ha
    · exact nt_tup h hp
    · rw [List.mem_singleton.mp ha]; exact q.nt
  · rcases List.mem_cons.mp ha with rfl | ha
    · exact .inl hc
    · rw [List.mem_singleton.mp ha]; exact .inr q.sl
theorem vo2_l {o l p : Addr} {xs : List V} (q : OrdS C S b H o l) (h : H p = some (.lst xs)) (hp : p ≠ b) (hpl : p ≠ l) (hc : Hc p = none) (hx : ∀ x ∈ xs, ItS o x) (hl : xs.length ≤ 2) : VO2 C S b Hc H 4 1600 (.ref p) := by
  refine ⟨[p, l], .lst (as := [l]) h (fun x hm => (hx x hm).sh q) (by simpa using hpl) (fun a ha => ha) (by decide) (by decide) ?_, fun a ha => ?_, fun r e => (by cases e; exact hc), fun a ha => ?_⟩
  · have := Nat.mul_le_mul_right 512 (Nat.add_le_add_right hl 1)
    omega
  · rcases List.mem_cons.mp ha with rfl | ha
    · exact nt_lst h hp
    · rw [List.mem_singleton.mp ha]; exact q.nt
  · rcases List.mem_cons.mp ha with rfl | ha
    · exact .inl hc
    · rw [List.mem_singleton.mp ha]; exact .inr q.sl
/-- isinstance(x, list) -/
def lsB (H : Hp) (x : V) : Bool := match x with
  | .ref p => (match H p with
    | some (.lst _) => true
    | _ => false)
  | _ => false
theorem Kd.isi {K : PySem.W.Frag} (h : Kd H x) {Q : VK} (hQ : Q (.bl (lsB H x)) H) : rIsi K [x, .ty "list"] H Q := by
  cases h with
  | lst h => exact ⟨_, _, _, _, true, rfl, .ty _, .base (.lst h), kit_ty (by decide +kernel), by simpa [lsB, h] using hQ⟩
  | tup h => exact ⟨_, _, _, _, false, rfl, .ty _, .base (.tup h), kit_ty (by decide +kernel), by simpa [lsB, h] using hQ⟩
  | non => exact ⟨_, _, _, _, false, rfl, .ty _, .base .non, kit_ty (by decide +kernel), hQ⟩
  | int i => exact ⟨_, _, _, _, false, rfl, .ty _, .base (.int i), kit_ty (by decide +kernel), hQ⟩
  | str z => exact ⟨_, _, _, _, false, rfl, .ty _, .base (.str z), kit_ty (by decide +kernel), hQ⟩
  | dct h => exact ⟨_, _, _, _, false, rfl, .ty _, .base (.dK h), kit_ty (by decide +kernel), by simpa [lsB, h] using hQ⟩
theorem lsB_true (h : lsB H x = true) : ∃ p xs, x = .ref p ∧ H p = some (.lst xs) ∧ lateH H x = upd H p (.lst (xs ++ [.str "late"])) := by
  unfold lsB at h
  cases x with
  | ref p =>
    cases e : H p with
    | none => simp [e] at h
    | some u =>
      cases u with
      | lst xs => exact ⟨p, xs, rfl, e, by simp [lateH, e]⟩
      | _ => simp [e] at h
  | _ => cases h
theorem lsB_false (h : lsB H x = false) : lateH H x = H := by
  unfold lsB at h
  cases x with
  | ref p =>
    unfold lateH
    cases e : H p with
    | none => simp [e]
    | some u =>
      cases u with
      | lst xs => simp [e] at h
      | _ => simp [e]
  | _ => rfl
theorem Kd.kpt {n : Nat} (h : Kd H x) (hb : BoxOk H b n) (k : KpT b H H') (hn : x ≠ .ref b) : Kd H' x := by
  obtain ⟨xs, hx⟩ := box_lst hb
  cases h with
  | non => exact .non
  | int i => exact .int i
  | str z => exact .str z
  | lst h => exact .lst (k _ _ (fun q => hn (by rw [q])) lst_nt h)
  | tup h => exact .tup (k _ _ (fun q => by rw [q, hx] at h; cases h) tup_nt h)
  | dct h => exact .dct (k _ _ (fun q => by rw [q, hx] at h; cases h) (fun ps z => by cases z) h)
theorem Kd.eq (h : Kd H x) (e : ∀ p, x = .ref p → H' p = H p) : Kd H' x := by
  cases h with
  | non => exact .non
  | int i => exact .int i
  | str z => exact .str z
  | lst h => exact .lst ((e _ rfl).trans h)
  | tup h => exact .tup ((e _ rfl).trans h)
  | dct h => exact .dct ((e _ rfl).trans h)
theorem Sh.len {p : Addr} {xs : List V} (h : Sh C S H k n L bs x) (e : x = .ref p) (hp : H p = some (.lst xs)) : xs.length ≤ L := by
  cases h with
  | non h => cases e
  | int h => cases e
  | str h => cases e
  | ord dx l sa sl h hl hw hn hb hL => cases e; rw [h] at hp; cases hp
  | tup h hs hp' hb hm hL => cases e; rw [h] at hp; cases hp
  | @lst n m L L' as bs p xs h hs hp' hb hm h6 hL =>
    cases e
    rw [h] at hp
    cases hp
    have h1 : xs.length + k ≤ (xs.length + k) * (L + 2) := Nat.le_mul_of_pos_right _ (by omega)
    omega
  | dct h hb hn hL => cases e; rw [h] at hp; cases hp
theorem tabs_late {T : List (Addr × Str)} {y : V} (t : LamX.Tabs T H) : LamX.Tabs T (lateH H y) := by
  cases h : lsB H y with
  | true =>
    obtain ⟨p, xs, rfl, hp, e⟩ := lsB_true h
    rw [e]
    exact tabs_set t hp
  | false => rw [lsB_false h]; exact t
theorem box_late {n : Nat} {y : V} (h : BoxOk H b n) (hn : y ≠ .ref b) : BoxOk (lateH H y) b n := by
  obtain ⟨a, c, d, h1, h2⟩ := h
  exact ⟨a, c, d, (lateH_ne hn).trans h1, h2⟩
end
end S78
/-! H6: what is refused. -/
namespace S78
open PySem PySem.Spec PyProof.Rows L2 SN HotX L2H RP
theorem nil_red {σ : L2.St} {H : Hp} {Q : List V → Hp → Prop} (h : Q [] H) : tNil σ H Q := h
theorem one_red {u : V} {σ : L2.St} {H : Hp} {Q : List V → Hp → Prop} (h : Q [u] H) : tCons (tC u) tNil σ H Q := h
abbrev sRef : Stmt := top 48
abbrev nRef : List Str := ["box", "step", "line", "order", "some", "thing", "more", "found", "odd", "due", "good", "one"]
theorem scRef : FnScope nRef ["box"] (defScope sRef) := ⟨rfl, rfl, rfl, by decide +kernel, rfl, by decide +kernel, by decide +kernel⟩
def lamQf (x : Str) (cdv : Value) : Str := (envOfC x (defScope sRef) 0 0 cdv).qual ++ "<lambda>"
def spRef (T : List (Addr × Str)) : Sp := fun vs H Q _ => ∃ (b : Addr) (n : Nat), vs = [.ref b] ∧ BoxOk H b (40 + n) ∧ LamX.Tabs T H ∧ ∀ H', KpT b H H' → BoxOk H' b n → LamX.Tabs T H' → Q (.bl true) H'
section
variable {P : Program} {w : World} {K : PySem.W.Frag} {mg : Str → Option Value} {base : Heap} {f : Addr} {fd : FuncData} {C IT IL IS : Addr} {T : List (Addr × Str)}
theorem ok_ref (F : FnP K "_law_refused_right" sRef f fd) (Tf : Fre mg) (Cg : CgF K mg) (Ct : CtF K mg IT IL IS) (hT : Tb T base mg fd.code (lamQf "_law_refused_right" fd.code)) (GL : Cl P w K mg base CX0 5 "_law_step" (spLStep C) []) (GK : Cl P w K mg base CX0 1 "_law_take" spTake [])
    (GT : Cl P w K mg base (L2.CX P w) 5 "step_text" (spST C IS) []) (GP : Cl P w K mg base (L2.CX P w) 6 "parse_step" (spPS C IT) []) (GS : Cl P w K mg base (L2.CX P w) 6 "steps_text" (spSS K C IS) []) (GX : Cl P w K mg base (L2.CX P w) 7 "parse_steps" (spPX C IT IL) []) (R : RpF P w K mg base C) : FnG P w K mg base CX0 11 f fd ["box"] Gnil (spRef T) := by
  refine fn_gc F scRef (fun vs H Q E h => by obtain ⟨b, n, rfl, _⟩ := h; rfl) (fun A g outer s H vs Q E hg hG hr h => ?_)
  obtain ⟨b, n, rfl, hb, hTb, hQ⟩ := h
  have hgd : (A.deeper (envOfC "_law_refused_right" (defScope sRef) s.heap.objs.size f fd.code)).guards = some [] := (guards_deeper A _).trans (hg.trans (congrArg some hG))
  refine ⟨_, PSs.nox (pss_cons (ps_asg (pe_cl GL hr (by decide) rfl pass0 (pa_cons (pv 0) pa_nil)) (pg_tup (n := 2) rfl (by exact pgs_cons (pg_name (i := 1) scRef.nd rfl (Or.inl rfl)) (pgs_cons (pg_name (i := 2) scRef.nd rfl (Or.inl rfl)) pgs_nil))))
    (pss_cons (ps_set (i := 3) scRef.nd rfl (Or.inl rfl) (pe_ix ix_tup (pv 1) pe_int (fun _ _ => rfl)))
    (pss_cons (ps_set (i := 4) scRef.nd rfl (Or.inl rfl) (pe_lst (pa_cons pe_non (pa_cons pe_str (pa_cons pe_int (pa_cons (pe_tup (pa_cons pe_str pa_nil)) (pa_cons (pe_tup (pa_cons pe_str (pa_cons (pv 3) (pa_cons (pv 3) pa_nil)))) (pa_cons (pe_tup (pa_cons pe_str (pa_cons (pv 3) pa_nil))) (pa_cons (pe_tup (pa_cons pe_str (pa_cons pe_str pa_nil)))
        (pa_cons (pe_tup (pa_cons pe_str (pa_cons (pv 3) pa_nil))) (pa_cons (pe_lst (pa_cons pe_str (pa_cons (pv 3) pa_nil))) (pa_cons (pe_tup (pa_cons (pv 3) (pa_cons pe_str pa_nil))) (pa_cons (pe_tup (pa_cons pe_str (pa_cons (pv 3) (pa_cons pe_str pa_nil)))) (pa_cons (pe_tup (pa_cons pe_non (pa_cons (pv 3) pa_nil))) (pa_cons (pe_tup pa_nil) pa_nil)))))))))))))))
    (pss_cons (ps_set (i := 5) scRef.nd rfl (Or.inr rfl) (pe_ix ix_list (pv 4) (pe_cl GK hr (by decide) rfl pass0 (pa_cons (pv 0) (pa_cons pe_int pa_nil))) (fun _ _ => rfl)))
    (pss_cons (ps_set (i := 6) scRef.nd rfl (Or.inr rfl) (pe_ix ix_list (pe_lst (pa_cons pe_non (pa_cons pe_int (pa_cons pe_dnewK (pa_cons (pe_lst (pa_cons (pv 1) (pa_cons (pv 5) pa_nil))) (pa_cons (pe_op op_rep (pe_lst (pa_cons (pv 1) pa_nil)) pe_int) (pa_cons (pv 2) (pa_cons (pe_tup (pa_cons (pv 1) (pa_cons (pe_lst pa_nil) pa_nil))) pa_nil))))))))
        (pe_cl GK hr (by decide) rfl pass0 (pa_cons (pv 0) (pa_cons pe_int pa_nil))) (fun _ _ => rfl)))
    (pss_cons (ps_set (i := 7) scRef.nd rfl (Or.inl rfl) (pe_lst (pa_cons (pe_caught (k := 7) (t := fun E => tCall (spST C IS) [] E (tCons (tVar 5) tNil)) Cg Ct hT (hr.mono (by decide)) rfl (by exact LamX.lamS_by (show LamX.lamSB (defScope sRef) _ = true by decide +kernel)) rfl (fun _ _ _ _ _ => rfl)
        (fun A outer s H E f c' hr' => pe_cl (X := LamX.lamCx _ A outer s H E _ f c') GT hr' (by decide) rfl passL (pa_cons (pv 5) pa_nil))) pa_nil)))
    (pss_cons (ps_expr (pe_bm PySem.F.plainAttrs_list PySem.F.slot_list_append PySem.F.type_list_append mt_append (pv 7) (pa_cons (pe_caught (k := 7) (t := fun E => tCall (spSS K C IS) [] E (tCons (tVar 6) tNil)) Cg Ct hT (hr.mono (by decide)) rfl (by exact LamX.lamS_by (show LamX.lamSB (defScope sRef) _ = true by decide +kernel)) rfl (fun _ _ _ _ _ => rfl)
        (fun A outer s H E f c' hr' => pe_cl (X := LamX.lamCx _ A outer s H E _ f c') GS hr' (by decide) rfl passL (pa_cons (pv 6) pa_nil))) pa_nil)))
    (pss_cons (ps_set (i := 8) scRef.nd rfl (Or.inr rfl) (pe_ix ix_list (pe_lst (pa_cons pe_non (pa_cons pe_int (pa_cons (pe_lst (pa_cons pe_str pa_nil)) (pa_cons (pe_tup (pa_cons pe_str pa_nil)) (pa_cons pe_dnewK pa_nil))))))
        (pe_cl GK hr (by decide) rfl pass0 (pa_cons (pv 0) (pa_cons pe_int pa_nil))) (fun _ _ => rfl)))
    (pss_cons (ps_expr (pe_bm PySem.F.plainAttrs_list PySem.F.slot_list_append PySem.F.type_list_append mt_append (pv 7) (pa_cons (pe_caught (k := 7) (t := fun E => tCall (spPS C IT) [] E (tCons (tVar 8) tNil)) Cg Ct hT (hr.mono (by decide)) rfl (by exact LamX.lamS_by (show LamX.lamSB (defScope sRef) _ = true by decide +kernel)) rfl (fun _ _ _ _ _ => rfl)
        (fun A outer s H E f c' hr' => pe_cl (X := LamX.lamCx _ A outer s H E _ f c') GP hr' (by decide) rfl passL (pa_cons (pv 8) pa_nil))) pa_nil)))
    (pss_cons (ps_expr (pe_bm PySem.F.plainAttrs_list PySem.F.slot_list_append PySem.F.type_list_append mt_append (pv 7) (pa_cons (pe_caught (k := 7) (t := fun E => tCall (spPX C IT IL) [] E (tCons (tVar 8) tNil)) Cg Ct hT (hr.mono (by decide)) rfl (by exact LamX.lamS_by (show LamX.lamSB (defScope sRef) _ = true by decide +kernel)) rfl (fun _ _ _ _ _ => rfl)
        (fun A outer s H E f c' hr' => pe_cl (X := LamX.lamCx _ A outer s H E _ f c') GX hr' (by decide) rfl passL (pa_cons (pv 8) pa_nil))) pa_nil)))
    (pss_cons (ps_set (i := 9) scRef.nd rfl (Or.inl rfl) (pe_lst (pa_cons (pe_lst (pa_cons pe_str (pa_cons (pv 5) pa_nil))) (pa_cons (pe_lst (pa_cons pe_str (pa_cons (pv 6) pa_nil))) (pa_cons (pe_lst (pa_cons pe_str (pa_cons (pv 8) pa_nil))) (pa_cons (pe_lst (pa_cons pe_str (pa_cons (pv 8) pa_nil))) pa_nil))))))
    (pss_cons (ps_set (i := 10) scRef.nd rfl (Or.inl rfl) (pe_cmpR op_eq (pe_callB (call_repr (n := 6) hgd (hr.mono (by decide))) rfl Tf.repr boot_repr (pa_cons (pv 7) pa_nil)) (pe_callB (call_repr (n := 6) hgd (hr.mono (by decide))) rfl Tf.repr boot_repr (pa_cons (pv 9) pa_nil)) rfl))
    (pss_cons (ps_for PassesOwn.never rfl (pi_list (pe_lst (pa_cons (pv 5) (pa_cons (pv 6) (pa_cons (pv 8) pa_nil))))) (pg_name (i := 11) scRef.nd rfl (Or.inl rfl))
      (pss_one (ps_if (pt_val (pe_callB call_isi rfl Tf.isi boot_isinstance (pa_cons (pv 11) (pa_cons (pe_bltn rfl Tf.list boot_list (v := .ty "list") rfl) pa_nil)))) (pss_one (ps_expr (pe_bm PySem.F.plainAttrs_list PySem.F.slot_list_append PySem.F.type_list_append mt_append (pv 11) (pa_cons pe_str pa_nil)))) pss_nil)))
    (pss_one (ps_ret (pe_and (pv 10) (pe_one (pe_cmpR op_eq (pe_callB (call_repr (n := 6) hgd (hr.mono (by decide))) rfl Tf.repr boot_repr (pa_cons (pv 7) pa_nil)) (pe_callB (call_repr (n := 6) hgd (hr.mono (by decide))) rfl Tf.repr boot_repr (pa_cons (pv 9) pa_nil)) rfl)))))))))))))))))), ?_⟩
  refine ⟨_, rfl, b, 12 + n, rfl, hb.mono (by omega), fun p v st H1 hp k1 hb1 ok stp hpv => ⟨p, _, rfl, SqT.of hpv, rfl, _, _, rfl, _, _, rfl, rfl, ?_⟩⟩
  have hb1b : ∀ a, H a = none → a ≠ b := fun a ha => hb.dom ha
  obtain ⟨pv, o, l, os, rfl, hpv1, qo, qs, hvb⟩ := step_sh (b := b) (S := Nt b H1) stp ok hb1b fun a _ h => h
  have t1 := tabs_kpb hTb hb k1
  have hSb : ∀ a, Nt b H1 a → a ≠ b := fun a h => h.1
  have kk1 : KpT b H H1 := KpT.kp k1
  have stp1 : Stp C (fun a => a ≠ b) H1 (.ref pv) st := stp.mono hb1b fun _ _ _ h _ => h
  have hpvb : pv ≠ b := hvb pv rfl
  have hob : o ≠ b := qo.nbo
  have hat : atI (V.str st.1 :: V.ref o :: os) 1 = some (V.ref o) := by
    obtain ⟨c, hc1, hc2⟩ := atI_of (xs := V.str st.1 :: V.ref o :: os) (d := 1) (by decide) (by simp only [List.length_cons]; omega)
    rw [hc1]
    exact hc2.symm
  refine ⟨_, rfl, pv, _, 1, .ref o, rfl, rfl, SqT.of hpv1, hat, ?_⟩
  clear hTb stp hpv hp
  -- the thirteen things
  refine ⟨by show 1 ≤ sizeLine; decide, fun p1 h1 => ⟨_, rfl, _, rfl, by show 3 ≤ sizeLine; decide, fun p2 h2 => ⟨_, rfl, by show 2 ≤ sizeLine; decide, fun p3 h3 => ⟨by show 2 ≤ sizeLine; decide, fun p4 h4 => ⟨_, rfl, by show 2 ≤ sizeLine; decide, fun p5 h5 => ⟨_, rfl, by show 2 ≤ sizeLine; decide, fun p6 h6 => ⟨_, rfl, by show 2 ≤ sizeLine; decide, fun p7 h7 => ⟨_, rfl, by show 3 ≤ sizeLine; decide, fun p8 h8 => ⟨_, rfl, by show 2 ≤ sizeLine; decide, fun p9 h9 => ⟨by show 0 ≤ sizeLine; decide, fun p10 h10 => ⟨by show 13 ≤ sizeLine; decide, fun p11 h11 => ?_⟩⟩⟩⟩⟩⟩⟩⟩⟩⟩⟩
  have y1 := Ext.upd (o := HO.tup [.str "build"]) h1
  have y2 := y1.trans (Ext.upd (o := HO.tup [.str "build", .ref o, .ref o]) h2)
  have y3 := y2.trans (Ext.upd (o := HO.tup [.str "relay", .ref o]) h3)
  have y4 := y3.trans (Ext.upd (o := HO.tup [.str "drop", .str "a"]) h4)
  have y5 := y4.trans (Ext.upd (o := HO.tup [.str "Build", .ref o]) h5)
  have y6 := y5.trans (Ext.upd (o := HO.lst [.str "build", .ref o]) h6)
  have y7 := y6.trans (Ext.upd (o := HO.tup [.ref o, .str "build"]) h7)
  have y8 := y7.trans (Ext.upd (o := HO.tup [.str "relay", .ref o, .str "a"]) h8)
  have y9 := y8.trans (Ext.upd (o := HO.tup [.non, .ref o]) h9)
  have y10 := y9.trans (Ext.upd (o := HO.tup []) h10)
  have y11 := y10.trans (Ext.upd (o := HO.lst [.non, .str "build a", .int 5, .ref p1, .ref p2, .ref p3, .ref p4, .ref p5, .ref p6, .ref p7, .ref p8, .ref p9, .ref p10]) h11)
  have x11 := Ext.upd (o := HO.lst [.non, .str "build a", .int 5, .ref p1, .ref p2, .ref p3, .ref p4, .ref p5, .ref p6, .ref p7, .ref p8, .ref p9, .ref p10]) h11
  have x10 := (Ext.upd (o := HO.tup []) h10).trans x11
  have x9 := (Ext.upd (o := HO.tup [.non, .ref o]) h9).trans x10
  have x8 := (Ext.upd (o := HO.tup [.str "relay", .ref o, .str "a"]) h8).trans x9
  have x7 := (Ext.upd (o := HO.tup [.ref o, .str "build"]) h7).trans x8
  have x6 := (Ext.upd (o := HO.lst [.str "build", .ref o]) h6).trans x7
  have x5 := (Ext.upd (o := HO.tup [.str "Build", .ref o]) h5).trans x6
  have x4 := (Ext.upd (o := HO.tup [.str "drop", .str "a"]) h4).trans x5
  have x3 := (Ext.upd (o := HO.tup [.str "relay", .ref o]) h3).trans x4
  have x2 := (Ext.upd (o := HO.tup [.str "build", .ref o, .ref o]) h2).trans x3
  have x1 := (Ext.upd (o := HO.tup [.str "build"]) h1).trans x2
  have f1 := x2 p1 (HO.tup [.str "build"]) upd_same
  have c1 : H1 p1 = none := h1
  have b1 : p1 ≠ b := hb1.dom c1
  have f2 := x3 p2 (HO.tup [.str "build", .ref o, .ref o]) upd_same
  have c2 : H1 p2 = none := ext_none y1 h2
  have b2 : p2 ≠ b := hb1.dom c2
  have f3 := x4 p3 (HO.tup [.str "relay", .ref o]) upd_same
  have c3 : H1 p3 = none := ext_none y2 h3
  have b3 : p3 ≠ b := hb1.dom c3
  have f4 := x5 p4 (HO.tup [.str "drop", .str "a"]) upd_same
  have c4 : H1 p4 = none := ext_none y3 h4
  have b4 : p4 ≠ b := hb1.dom c4
  have f5 := x6 p5 (HO.tup [.str "Build", .ref o]) upd_same
  have c5 : H1 p5 = none := ext_none y4 h5
  have b5 : p5 ≠ b := hb1.dom c5
  have f6 := x7 p6 (HO.lst [.str "build", .ref o]) upd_same
  have c6 : H1 p6 = none := ext_none y5 h6
  have b6 : p6 ≠ b := hb1.dom c6
  have f7 := x8 p7 (HO.tup [.ref o, .str "build"]) upd_same
  have c7 : H1 p7 = none := ext_none y6 h7
  have b7 : p7 ≠ b := hb1.dom c7
  have f8 := x9 p8 (HO.tup [.str "relay", .ref o, .str "a"]) upd_same
  have c8 : H1 p8 = none := ext_none y7 h8
  have b8 : p8 ≠ b := hb1.dom c8
  have f9 := x10 p9 (HO.tup [.non, .ref o]) upd_same
  have c9 : H1 p9 = none := ext_none y8 h9
  have b9 : p9 ≠ b := hb1.dom c9
  have f10 := x11 p10 (HO.tup []) upd_same
  have c10 : H1 p10 = none := ext_none y9 h10
  have b10 : p10 ≠ b := hb1.dom c10
  have c11 : H1 p11 = none := ext_none y10 h11
  have b11 : p11 ≠ b := hb1.dom c11
  have f11 : (upd (upd (upd (upd (upd (upd (upd (upd (upd (upd (upd H1 p1 (.tup [.str "build"])) p2 (.tup [.str "build", .ref o, .ref o])) p3 (.tup [.str "relay", .ref o])) p4 (.tup [.str "drop", .str "a"])) p5 (.tup [.str "Build", .ref o])) p6 (.lst [.str "build", .ref o])) p7 (.tup [.ref o, .str "build"])) p8 (.tup [.str "relay", .ref o, .str "a"])) p9 (.tup [.non, .ref o])) p10 (.tup [])) p11 (.lst [.non, .str "build a", .int 5, .ref p1, .ref p2, .ref p3, .ref p4, .ref p5, .ref p6, .ref p7, .ref p8, .ref p9, .ref p10])) p11 = some (.lst [.non, .str "build a", .int 5, .ref p1, .ref p2, .ref p3, .ref p4, .ref p5, .ref p6, .ref p7, .ref p8, .ref p9, .ref p10]) := upd_same
  clear x1 x2 x3 x4 x5 x6 x7 x8 x9 x10 x11 y1 y2 y3 y4 y5 y6 y7 y8 y9 y10 h1 h2 h3 h4 h5 h6 h7 h8 h9 h10 h11
  show (fun Ht => _) (upd (upd (upd (upd (upd (upd (upd (upd (upd (upd (upd H1 p1 (.tup [.str "build"])) p2 (.tup [.str "build", .ref o, .ref o])) p3 (.tup [.str "relay", .ref o])) p4 (.tup [.str "drop", .str "a"])) p5 (.tup [.str "Build", .ref o])) p6 (.lst [.str "build", .ref o])) p7 (.tup [.ref o, .str "build"])) p8 (.tup [.str "relay", .ref o, .str "a"])) p9 (.tup [.non, .ref o])) p10 (.tup [])) p11 (.lst [.non, .str "build a", .int 5, .ref p1, .ref p2, .ref p3, .ref p4, .ref p5, .ref p6, .ref p7, .ref p8, .ref p9, .ref p10]))
  generalize (upd (upd (upd (upd (upd (upd (upd (upd (upd (upd (upd H1 p1 (.tup [.str "build"])) p2 (.tup [.str "build", .ref o, .ref o])) p3 (.tup [.str "relay", .ref o])) p4 (.tup [.str "drop", .str "a"])) p5 (.tup [.str "Build", .ref o])) p6 (.lst [.str "build", .ref o])) p7 (.tup [.ref o, .str "build"])) p8 (.tup [.str "relay", .ref o, .str "a"])) p9 (.tup [.non, .ref o])) p10 (.tup [])) p11 (.lst [.non, .str "build a", .int 5, .ref p1, .ref p2, .ref p3, .ref p4, .ref p5, .ref p6, .ref p7, .ref p8, .ref p9, .ref p10])) = Ht at y11 f1 f2 f3 f4 f5 f6 f7 f8 f9 f10 f11
  have hbt := hb1.ext y11
  have tt := t1.ext y11
  refine ⟨_, rfl, _, rfl, b, 13, 11 + n, rfl, by decide, by decide, hbt.mono (by omega), fun d H3 hd0 hd1 k3 hb3 => ?_⟩
  obtain ⟨x, hx1, hx2⟩ := atI_of (xs := ([.non, .str "build a", .int 5, .ref p1, .ref p2, .ref p3, .ref p4, .ref p5, .ref p6, .ref p7, .ref p8, .ref p9, .ref p10] : List V)) hd0 hd1
  refine ⟨p11, _, d, x, rfl, rfl, SqL.of (k3 _ _ b11 f11), hx1, ?_⟩
  have kt3 : KpT b Ht H3 := KpT.kp k3
  have k13 : KpT b H1 H3 := (KpT.of y11).trans kt3
  have qo3 := qo.kpt k13
  have hlp : p6 ≠ l := qo.nt.ne c6
  have so : ItS o (.ref o) := .inl rfl
  have sn : ItS o .non := .inr (.inl rfl)
  have ss : ∀ z : Str, (reprText z).length ≤ 510 → ItS o (.str z) := fun z hz => .inr (.inr ⟨z, rfl, hz⟩)
  have sb : ItS o (.str "build") := ss _ (by decide +kernel)
  have sr : ItS o (.str "relay") := ss _ (by decide +kernel)
  have sd : ItS o (.str "drop") := ss _ (by decide +kernel)
  have sB : ItS o (.str "Build") := ss _ (by decide +kernel)
  have sa : ItS o (.str "a") := ss _ (by decide +kernel)
  have hTH : VOk C (Nt b H1) b H1 H3 4 1600 x ∧ StepQ C H3 x false := by
    have io : ItemV C H3 (.ref o) .o := by
      obtain ⟨dx, ws, g1, _⟩ := qo3.ex
      exact ⟨o, dx, _, rfl, g1⟩
    have is : ∀ z : Str, ItemV C H3 (.str z) (.s z) := fun z => rfl
    have inn : ItemV C H3 .non .n := rfl
    have hm := List.mem_of_getElem? hx2
    simp only [List.mem_cons, List.not_mem_nil, or_false] at hm
    rcases hm with rfl | rfl | rfl | rfl | rfl | rfl | rfl | rfl | rfl | rfl | rfl | rfl | rfl
    · exact ⟨vok_non (by decide), .non⟩
    · exact ⟨vok_str (by decide +kernel), .str _⟩
    · exact ⟨vok_int (by decide), .int 5⟩
    · exact ⟨vok_t qo3 (k3 _ _ b1 f1) b1 c1 (fun x hx => by simp only [List.mem_cons, List.not_mem_nil, or_false] at hx; rcases hx with rfl <;> assumption) (by show 1 ≤ 3; decide), StepQ.tup (k3 _ _ b1 f1) (All2.cons (is _) All2.nil) (by show 1 ≤ 8; decide)⟩
    · exact ⟨vok_t qo3 (k3 _ _ b2 f2) b2 c2 (fun x hx => by simp only [List.mem_cons, List.not_mem_nil, or_false] at hx; rcases hx with rfl | rfl | rfl <;> assumption) (by show 3 ≤ 3; decide), StepQ.tup (k3 _ _ b2 f2) (All2.cons (is _) (All2.cons io (All2.cons io All2.nil))) (by show 3 ≤ 8; decide)⟩
    · exact ⟨vok_t qo3 (k3 _ _ b3 f3) b3 c3 (fun x hx => by simp only [List.mem_cons, List.not_mem_nil, or_false] at hx; rcases hx with rfl | rfl <;> assumption) (by show 2 ≤ 3; decide), StepQ.tup (k3 _ _ b3 f3) (All2.cons (is _) (All2.cons io All2.nil)) (by show 2 ≤ 8; decide)⟩
    · exact ⟨vok_t qo3 (k3 _ _ b4 f4) b4 c4 (fun x hx => by simp only [List.mem_cons, List.not_mem_nil, or_false] at hx; rcases hx with rfl | rfl <;> assumption) (by show 2 ≤ 3; decide), StepQ.tup (k3 _ _ b4 f4) (All2.cons (is _) (All2.cons (is _) All2.nil)) (by show 2 ≤ 8; decide)⟩
    · exact ⟨vok_t qo3 (k3 _ _ b5 f5) b5 c5 (fun x hx => by simp only [List.mem_cons, List.not_mem_nil, or_false] at hx; rcases hx with rfl | rfl <;> assumption) (by show 2 ≤ 3; decide), StepQ.tup (k3 _ _ b5 f5) (All2.cons (is _) (All2.cons io All2.nil)) (by show 2 ≤ 8; decide)⟩
    · exact ⟨vok_l qo3 (k3 _ _ b6 f6) b6 hlp c6 (fun x hx => by simp only [List.mem_cons, List.not_mem_nil, or_false] at hx; rcases hx with rfl | rfl <;> assumption) (by show 2 ≤ 2; decide), .lst (k3 _ _ b6 f6)⟩
    · exact ⟨vok_t qo3 (k3 _ _ b7 f7) b7 c7 (fun x hx => by simp only [List.mem_cons, List.not_mem_nil, or_false] at hx; rcases hx with rfl | rfl <;> assumption) (by show 2 ≤ 3; decide), StepQ.tup (k3 _ _ b7 f7) (All2.cons io (All2.cons (is _) All2.nil)) (by show 2 ≤ 8; decide)⟩
    · exact ⟨vok_t qo3 (k3 _ _ b8 f8) b8 c8 (fun x hx => by simp only [List.mem_cons, List.not_mem_nil, or_false] at hx; rcases hx with rfl | rfl | rfl <;> assumption) (by show 3 ≤ 3; decide), StepQ.tup (k3 _ _ b8 f8) (All2.cons (is _) (All2.cons io (All2.cons (is _) All2.nil))) (by show 3 ≤ 8; decide)⟩
    · exact ⟨vok_t qo3 (k3 _ _ b9 f9) b9 c9 (fun x hx => by simp only [List.mem_cons, List.not_mem_nil, or_false] at hx; rcases hx with rfl | rfl <;> assumption) (by show 2 ≤ 3; decide), StepQ.tup (k3 _ _ b9 f9) (All2.cons inn (All2.cons io All2.nil)) (by show 2 ≤ 8; decide)⟩
    · exact ⟨vok_t qo3 (k3 _ _ b10 f10) b10 c10 (fun x hx => by cases hx) (by show 0 ≤ 3; decide), StepQ.tup (k3 _ _ b10 f10) All2.nil (by show 0 ≤ 8; decide)⟩
  have qs3 := qs.kpt k13 hSb
  have t3 := tabs_kpb tt hbt k3
  have kk3 : KpT b H H3 := kk1.trans k13
  have stp3 : Stp C (fun a => a ≠ b) H3 (.ref pv) st := stp1.mono (fun _ h => h) fun c u hc h hn => k13 c u hc hn h
  obtain ⟨hV, hSQ⟩ := hTH
  clear so sn ss sb sr sd sB sa hx1 hx2 f1 f2 f3 f4 f5 f6 f7 f8 f9 f10 f11 c1 c2 c3 c4 c5 c6 c7 c8 c9 c10 c11 b1 b2 b3 b4 b5 b6 b7 b8 b9 b10 b11 tt t1 hbt kt3 y11 k3
  -- more
  refine fun q1 h1 => ⟨_, rfl, _, rfl, by show 2 ≤ sizeLine; decide, fun q2 h2 => ⟨_, rfl, by show 1 ≤ sizeLine; decide, fun q3 h3 => ⟨q3, 101, [.ref pv], rfl, rfl, upd_same, by decide, by decide, by show 1 * 101 ≤ sizeLine; decide, fun q4 h4 => ⟨_, rfl, _, rfl, by show 0 ≤ sizeLine; decide, fun q5 h5 => ⟨by show 2 ≤ sizeLine; decide, fun q6 h6 => ⟨by show 7 ≤ sizeLine; decide, fun q7 h7 => ?_⟩⟩⟩⟩⟩⟩
  have y1 := Ext.upd (o := HO.dK []) h1
  have y2 := y1.trans (Ext.upd (o := HO.lst [.ref pv, x]) h2)
  have y3 := y2.trans (Ext.upd (o := HO.lst [.ref pv]) h3)
  have y4 := y3.trans (Ext.upd (o := HO.lst (List.replicate (101 : Int).toNat [V.ref pv]).flatten) h4)
  have y5 := y4.trans (Ext.upd (o := HO.lst []) h5)
  have y6 := y5.trans (Ext.upd (o := HO.tup [.ref pv, .ref q5]) h6)
  have y7 := y6.trans (Ext.upd (o := HO.lst [.non, .int 5, .ref q1, .ref q2, .ref q4, .str (stText st), .ref q6]) h7)
  have x7 := Ext.upd (o := HO.lst [.non, .int 5, .ref q1, .ref q2, .ref q4, .str (stText st), .ref q6]) h7
  have x6 := (Ext.upd (o := HO.tup [.ref pv, .ref q5]) h6).trans x7
  have x5 := (Ext.upd (o := HO.lst []) h5).trans x6
  have x4 := (Ext.upd (o := HO.lst (List.replicate (101 : Int).toNat [V.ref pv]).flatten) h4).trans x5
  have x3 := (Ext.upd (o := HO.lst [.ref pv]) h3).trans x4
  have x2 := (Ext.upd (o := HO.lst [.ref pv, x]) h2).trans x3
  have x1 := (Ext.upd (o := HO.dK []) h1).trans x2
  have f1 := x2 q1 (HO.dK []) upd_same
  have c1 : H3 q1 = none := h1
  have b1 : q1 ≠ b := hb3.dom c1
  have f2 := x3 q2 (HO.lst [.ref pv, x]) upd_same
  have c2 : H3 q2 = none := ext_none y1 h2
  have b2 : q2 ≠ b := hb3.dom c2
  have f3 := x4 q3 (HO.lst [.ref pv]) upd_same
  have c3 : H3 q3 = none := ext_none y2 h3
  have b3 : q3 ≠ b := hb3.dom c3
  have f4 := x5 q4 (HO.lst (List.replicate (101 : Int).toNat [V.ref pv]).flatten) upd_same
  have c4 : H3 q4 = none := ext_none y3 h4
  have b4 : q4 ≠ b := hb3.dom c4
  have f5 := x6 q5 (HO.lst []) upd_same
  have c5 : H3 q5 = none := ext_none y4 h5
  have b5 : q5 ≠ b := hb3.dom c5
  have f6 := x7 q6 (HO.tup [.ref pv, .ref q5]) upd_same
  have c6 : H3 q6 = none := ext_none y5 h6
  have b6 : q6 ≠ b := hb3.dom c6
  have c7 : H3 q7 = none := ext_none y6 h7
  have b7 : q7 ≠ b := hb3.dom c7
  have f7 : (upd (upd (upd (upd (upd (upd (upd H3 q1 (.dK [])) q2 (.lst [.ref pv, x])) q3 (.lst [.ref pv])) q4 (.lst (List.replicate (101 : Int).toNat [V.ref pv]).flatten)) q5 (.lst [])) q6 (.tup [.ref pv, .ref q5])) q7 (.lst [.non, .int 5, .ref q1, .ref q2, .ref q4, .str (stText st), .ref q6])) q7 = some (.lst [.non, .int 5, .ref q1, .ref q2, .ref q4, .str (stText st), .ref q6]) := upd_same
  clear x1 x2 x3 x4 x5 x6 x7 y1 y2 y3 y4 y5 y6 h1 h2 h3 h4 h5 h6 h7
  show (fun Ht => _) (upd (upd (upd (upd (upd (upd (upd H3 q1 (.dK [])) q2 (.lst [.ref pv, x])) q3 (.lst [.ref pv])) q4 (.lst (List.replicate (101 : Int).toNat [V.ref pv]).flatten)) q5 (.lst [])) q6 (.tup [.ref pv, .ref q5])) q7 (.lst [.non, .int 5, .ref q1, .ref q2, .ref q4, .str (stText st), .ref q6]))
  generalize (upd (upd (upd (upd (upd (upd (upd H3 q1 (.dK [])) q2 (.lst [.ref pv, x])) q3 (.lst [.ref pv])) q4 (.lst (List.replicate (101 : Int).toNat [V.ref pv]).flatten)) q5 (.lst [])) q6 (.tup [.ref pv, .ref q5])) q7 (.lst [.non, .int 5, .ref q1, .ref q2, .ref q4, .str (stText st), .ref q6])) = Ht at y7 f1 f2 f3 f4 f5 f6 f7
  have hbt := hb3.ext y7
  have tt := t3.ext y7
  refine ⟨_, rfl, b, 7, 10 + n, rfl, by decide, by decide, hbt.mono (by omega), fun d H4 hd0 hd1 k4 hb4 => ?_⟩
  obtain ⟨m, hm1, hm2⟩ := atI_of (xs := ([.non, .int 5, .ref q1, .ref q2, .ref q4, .str (stText st), .ref q6] : List V)) hd0 hd1
  refine ⟨q7, _, d, m, rfl, rfl, SqL.of (k4 _ _ b7 f7), hm1, ?_⟩
  have k34 : KpT b H3 H4 := (KpT.of y7).trans (KpT.kp k4)
  have hV4 := hV.kpt k34 hSb
  have hSQ4 := hSQ.kpt hb3 k34 (hV.ne hSb)
  have stp4 : Stp C (fun a => a ≠ b) H4 (.ref pv) st := stp3.mono (fun _ h => h) fun c u hc h hn => k34 c u hc hn h
  have hM : VOk C (Nt b H1) b H3 H4 5 200000 m ∧ BadS K C H4 m := by
    obtain ⟨bsS, s1, s2⟩ := id qs3
    obtain ⟨bsX, v1, v2, v3⟩ := id hV
    have s1' := s1.mono k34 hSb fun a ha => (s2 a ha).1
    have v1' := v1.mono k34 hSb fun a ha => (v2 a ha).1
    have hm := List.mem_of_getElem? hm2
    simp only [List.mem_cons, List.not_mem_nil, or_false] at hm
    rcases hm with rfl | rfl | rfl | rfl | rfl | rfl | rfl
    · exact ⟨vok_non (by decide), .no .non⟩
    · exact ⟨vok_int (by decide), .no (.int 5)⟩
    · exact ⟨vok_dct (k4 _ _ b1 f1) b1 c1 (by decide) (by decide), .no (.dct (k4 _ _ b1 f1))⟩
    · refine ⟨vok_list (bs := bsS ++ bsX) (k4 _ _ b2 f2) b2 c2 (fun a ha => ?_) (fun y hy => ?_) (by show 2 ≤ 101; decide), .item (.inl (k4 _ _ b2 f2)) (All2.cons (stp4.q ok) (All2.cons hSQ4 All2.nil)) rfl (by show 2 ≤ 100; decide)⟩
      · rcases List.mem_append.mp ha with ha | ha
        · exact ⟨s2 a ha, (s2 a ha).kpt k34⟩
        · exact ⟨v2 a ha, (v2 a ha).kpt k34⟩
      · simp only [List.mem_cons, List.not_mem_nil, or_false] at hy
        rcases hy with rfl | rfl
        · exact s1'.weak (Nat.le_refl _) (Nat.le_refl _) fun a ha => List.mem_append_left _ ha
        · exact v1'.weak (Nat.le_refl _) (Nat.le_refl _) fun a ha => List.mem_append_right _ ha
    · have hl : (List.replicate (101 : Int).toNat [V.ref pv]).flatten.length = 101 := by simp
      refine ⟨vok_list (bs := bsS) (k4 _ _ b4 f4) b4 c4 (fun a ha => ⟨s2 a ha, (s2 a ha).kpt k34⟩) (fun y hy => ?_) (by rw [hl]; decide), .long (.inl (k4 _ _ b4 f4)) (by rw [hl]; decide)⟩
      obtain ⟨l', h1, h2⟩ := List.mem_flatten.mp hy
      rw [List.eq_of_mem_replicate h1] at h2
      rw [List.mem_singleton.mp h2]
      exact s1'
    · exact ⟨vok_str (Nat.le_trans (repr_line ok) (by decide)), .no (.str _)⟩
    · refine ⟨vok_tuple (bs := q5 :: bsS) (k4 _ _ b6 f6) b6 c6 (fun z => ?_) (fun a ha => ?_) (fun y hy => ?_) (by show 2 ≤ 101; decide), .item (.inr (k4 _ _ b6 f6)) (All2.cons (stp4.q ok) (All2.cons (.lst (k4 _ _ b5 f5)) All2.nil)) rfl (by show 2 ≤ 100; decide)⟩
      · rcases List.mem_cons.mp z with z | z
        · rw [z, f5] at f6; cases f6
        · exact (s2 _ z).ne c6 rfl
      · rcases List.mem_cons.mp ha with rfl | ha
        · exact nt_lst (k4 _ _ b5 f5) b5
        · exact (s2 a ha).kpt k34
      · simp only [List.mem_cons, List.not_mem_nil, or_false] at hy
        rcases hy with rfl | rfl
        · exact s1'.weak (Nat.le_refl _) (Nat.le_refl _) fun a ha => List.mem_cons_of_mem _ ha
        · exact .lst (as := []) (n := 0) (L := 6) (k4 _ _ b5 f5) (fun y hy => by cases hy) (by simp) (fun a ha => by rw [List.mem_singleton.mp ha]; exact List.mem_cons_self ..) (by decide) (by decide) (by decide)
  have t4 := tabs_kpb tt hbt k4
  have kk4 : KpT b H H4 := kk3.trans k34
  have k14 : KpT b H1 H4 := k13.trans k34
  obtain ⟨hVm, hBm⟩ := hM
  clear hm1 hm2 f1 f2 f3 f4 f5 f6 f7 c1 c2 c3 c4 c5 c6 c7 b1 b2 b3 b4 b5 b6 b7 tt hbt y7 k4 stp3 qs3 qs t3
  -- two are caught
  have nx : x ≠ .ref b := hV4.ne hSb
  have nm : m ≠ .ref b := hVm.ne hSb
  refine ⟨t4, fun H5 e5 t5 => ⟨_, rfl, x, rfl, .inr ⟨hSQ4.kpt hb4 (KpT.n e5) nx, fun d1 H6 e6 hd1 h6 => ⟨d1, x, rfl, .inr (.inr ⟨rfl, h6, fun l1 hl1 => ⟨by show 1 ≤ sizeLine; decide, fun G hG => ?_⟩⟩)⟩⟩⟩⟩
  have e57 : Ext H5 (upd (upd H6 l1 (.lst [.str "steps", x])) G (.lst [.ref l1])) := (e6.trans (Ext.upd hl1)).upd' hG
  have t7 := t5.ext e57
  have k47 : KpT b H4 (upd (upd H6 l1 (.lst [.str "steps", x])) G (.lst [.ref l1])) := (KpT.n e5).trans (KpT.of e57)
  have hb7 := (hb4.n e5).ext e57
  have nG4 : ¬ Nt b H4 G := not_nt ((KpT.n e5).trans (KpT.of (e6.trans (Ext.upd (o := .lst [.str "steps", x]) hl1)))) hG
  have nl1 : ¬ Nt b H4 l1 := not_nt ((KpT.n e5).trans (KpT.of e6)) hl1
  have hGb : G ≠ b := ((hb4.n e5).ext (e6.trans (Ext.upd hl1))).dom hG
  have hl1b : l1 ≠ b := ((hb4.n e5).ext e6).dom hl1
  have hGl1 : G ≠ l1 := fun z => by rw [z, upd_same] at hG; cases hG
  have f1 := (Ext.upd (o := .lst [.ref l1]) hG) l1 (.lst [.str "steps", x]) upd_same
  have fG : upd (upd H6 l1 (.lst [.str "steps", x])) G (.lst [.ref l1]) G = some (.lst [.ref l1]) := upd_same
  clear e6 hd1 h6 e57 hl1 hG
  show (fun H7 => _) (upd (upd H6 l1 (.lst [.str "steps", x])) G (.lst [.ref l1]))
  generalize upd (upd H6 l1 (.lst [.str "steps", x])) G (.lst [.ref l1]) = H7 at t7 k47 hb7 f1 fG
  refine ⟨_, rfl, .inl ⟨rfl, _, SqL.of fG⟩, t7, fun H8 e8 t8 => ⟨_, rfl, m, rfl, .inr ⟨hBm.kpt hb4 (k47.trans (KpT.n e8)) nm (hVm.nb hSb), fun d2 H9 e9 hd2 h9 => ⟨d2, m, rfl, .inr (.inr ⟨rfl, h9, fun l2 hl2 => ?_⟩)⟩⟩⟩⟩
  have fG9 := e9 _ _ (e8 _ _ fG lst_nt)
  have f19 := e9 _ _ (e8 _ _ f1 lst_nt)
  have hGl2 : G ≠ l2 := fun z => by rw [← z, fG9] at hl2; cases hl2
  have nl2 : ¬ Nt b H4 l2 := not_nt (k47.trans ((KpT.n e8).trans (KpT.of e9))) hl2
  have hl2b : l2 ≠ b := ((hb7.n e8).ext e9).dom hl2
  have e8' := e9.trans (Ext.upd (o := .lst [.str "steps", m]) hl2)
  refine ⟨G, _, _, rfl, rfl, (Ext.upd hl2) _ _ fG9, by show 1 < sizeLine; decide, ?_⟩
  have t10 := tabs_set (o := .lst ([.ref l1] ++ [.ref l2])) (t8.ext e8') ((Ext.upd (o := .lst [.str "steps", m]) hl2) _ _ fG9)
  have hb10 := ((hb7.n e8).ext e8').set (o := .lst ([.ref l1] ++ [.ref l2])) hGb
  have k410 : KpT b H4 (upd (upd H9 l2 (.lst [.str "steps", m])) G (.lst ([.ref l1] ++ [.ref l2]))) := kpt_set (k47.trans ((KpT.n e8).trans (KpT.of e8'))) nG4 hGb
  have f110 : upd (upd H9 l2 (.lst [.str "steps", m])) G (.lst ([.ref l1] ++ [.ref l2])) l1 = some (.lst [.str "steps", x]) := by rw [upd_ne hGl1.symm]; exact (Ext.upd hl2) _ _ f19
  have f210 : upd (upd H9 l2 (.lst [.str "steps", m])) G (.lst ([.ref l1] ++ [.ref l2])) l2 = some (.lst [.str "steps", m]) := by rw [upd_ne hGl2.symm, upd_same]
  have fG10 : upd (upd H9 l2 (.lst [.str "steps", m])) G (.lst ([.ref l1] ++ [.ref l2])) G = some (.lst [.ref l1, .ref l2]) := upd_same
  clear t5 t7 e5 e8 t8 e9 hd2 h9 hl2 fG9 f19 e8' fG f1 hb7 k47
  show (fun H10 => _) (upd (upd H9 l2 (.lst [.str "steps", m])) G (.lst ([.ref l1] ++ [.ref l2])))
  generalize upd (upd H9 l2 (.lst [.str "steps", m])) G (.lst ([.ref l1] ++ [.ref l2])) = H10 at t10 hb10 k410 f110 f210 fG10
  -- odd
  refine ⟨by show 1 ≤ sizeLine; decide, fun r1 g1 => ⟨by show 1 ≤ sizeLine; decide, fun r2 g2 r3 g3 => ⟨by show 5 ≤ sizeLine; decide, fun r4 g4 => ⟨_, rfl, b, 5, 9 + n, rfl, by decide, by decide, (((((hb10.ext (Ext.upd g1)).ext (Ext.upd g2)).ext (Ext.upd g3)).ext (Ext.upd g4)).mono (by omega)), fun d H11 hd0 hd1 k11 hb11 => ?_⟩⟩⟩⟩
  have y1 := Ext.upd (o := HO.lst [.str "drop a"]) g1
  have y2 := y1.trans (Ext.upd (o := HO.tup [.str "drop a"]) g2)
  have y3 := y2.trans (Ext.upd (o := HO.dK []) g3)
  have y4 := y3.trans (Ext.upd (o := HO.lst [.non, .int 5, .ref r1, .ref r2, .ref r3]) g4)
  have x4 := Ext.upd (o := HO.lst [.non, .int 5, .ref r1, .ref r2, .ref r3]) g4
  have x3 := (Ext.upd (o := HO.dK []) g3).trans x4
  have x2 := (Ext.upd (o := HO.tup [.str "drop a"]) g2).trans x3
  have x1 := (Ext.upd (o := HO.lst [.str "drop a"]) g1).trans x2
  have v1 := x2 r1 (HO.lst [.str "drop a"]) upd_same
  have c1 : H10 r1 = none := g1
  have b1 : r1 ≠ b := hb10.dom c1
  have v2 := x3 r2 (HO.tup [.str "drop a"]) upd_same
  have c2 : H10 r2 = none := ext_none y1 g2
  have b2 : r2 ≠ b := hb10.dom c2
  have v3 := x4 r3 (HO.dK []) upd_same
  have c3 : H10 r3 = none := ext_none y2 g3
  have b3 : r3 ≠ b := hb10.dom c3
  have c4 : H10 r4 = none := ext_none y3 g4
  have b4 : r4 ≠ b := hb10.dom c4
  have v4 : (upd (upd (upd (upd H10 r1 (.lst [.str "drop a"])) r2 (.tup [.str "drop a"])) r3 (.dK [])) r4 (.lst [.non, .int 5, .ref r1, .ref r2, .ref r3])) r4 = some (.lst [.non, .int 5, .ref r1, .ref r2, .ref r3]) := upd_same
  clear x1 x2 x3 x4 y1 y2 y3 g1 g2 g3 g4
  generalize (upd (upd (upd (upd H10 r1 (.lst [.str "drop a"])) r2 (.tup [.str "drop a"])) r3 (.dK [])) r4 (.lst [.non, .int 5, .ref r1, .ref r2, .ref r3])) = Ht at k11 y4 v1 v2 v3 v4
  obtain ⟨od, ho1, ho2⟩ := atI_of (xs := ([.non, .int 5, .ref r1, .ref r2, .ref r3] : List V)) hd0 hd1
  refine ⟨r4, _, d, od, rfl, rfl, SqL.of (k11 _ _ b4 v4), ho1, ?_⟩
  have k1011 : KpT b H10 H11 := (KpT.of y4).trans (KpT.kp k11)
  have k411 : KpT b H4 H11 := k410.trans k1011
  have hO : VO2 C (Nt b H1) b H10 H11 4 1600 od ∧ NStr H11 od := by
    have q11 := qo.kpt (k14.trans k411)
    have hm := List.mem_of_getElem? ho2
    have so : ∀ y ∈ [V.str "drop a"], ItS o y := fun y hy => by
      rw [List.mem_singleton.mp hy]
      exact .inr (.inr ⟨_, rfl, by decide +kernel⟩)
    simp only [List.mem_cons, List.not_mem_nil, or_false] at hm
    rcases hm with rfl | rfl | rfl | rfl | rfl
    · exact ⟨vo2_non (by decide), .non⟩
    · exact ⟨vo2_int (by decide), .int 5⟩
    · exact ⟨vo2_l q11 (k11 _ _ b1 v1) b1 ((qo.nt.kpt (k14.trans k410)).ne c1) c1 so (by show 1 ≤ 2; decide), .lst (k11 _ _ b1 v1)⟩
    · exact ⟨vo2_t q11 (k11 _ _ b2 v2) b2 c2 so (by show 1 ≤ 3; decide), .tup (k11 _ _ b2 v2)⟩
    · exact ⟨vo2_dct (k11 _ _ b3 v3) b3 c3 (by decide) (by decide), .dct (k11 _ _ b3 v3)⟩
  have t11 := tabs_kpb (t10.ext y4) (hb10.ext y4) k11
  have f111 := k1011 _ _ hl1b lst_nt f110
  have f211 := k1011 _ _ hl2b lst_nt f210
  have fG11 := k1011 _ _ hGb lst_nt fG10
  obtain ⟨hVo2, hNo⟩ := hO
  have hVo := hVo2.vok
  have no : od ≠ .ref b := hVo.ne hSb
  have nG10 : Nt b H10 G := nt_lst fG10 hGb
  have nl10 : Nt b H10 l1 := nt_lst f110 hl1b
  have nl20 : Nt b H10 l2 := nt_lst f210 hl2b
  clear ho1 ho2 v1 v2 v3 v4 c1 c2 c3 c4 b1 b2 b3 b4 y4 k11 t10 f110 f210 fG10
  refine ⟨_, rfl, .inl ⟨rfl, _, SqL.of fG11⟩, t11, fun H12 e12 t12 => ⟨_, rfl, od, rfl, .inr ⟨hNo.kpt hb11 (KpT.n e12) no, fun d3 H13 e13 hd3 h13 => ⟨d3, od, rfl, .inl ⟨rfl, h13, fun l3 hl3 => ?_⟩⟩⟩⟩⟩
  have fG13 := e13 _ _ (e12 _ _ fG11 lst_nt)
  have f113 := e13 _ _ (e12 _ _ f111 lst_nt)
  have f213 := e13 _ _ (e12 _ _ f211 lst_nt)
  have hGl3 : G ≠ l3 := fun z => by rw [← z, fG13] at hl3; cases hl3
  have nl3 : ¬ Nt b H11 l3 := not_nt ((KpT.n e12).trans (KpT.of e13)) hl3
  have hl3b : l3 ≠ b := ((hb11.n e12).ext e13).dom hl3
  have e8' := e13.trans (Ext.upd (o := .lst [.str "text", od]) hl3)
  refine ⟨G, _, _, rfl, rfl, (Ext.upd hl3) _ _ fG13, by show 2 < sizeLine; decide, ?_⟩
  have t14 := tabs_set (o := .lst ([.ref l1, .ref l2] ++ [.ref l3])) (t12.ext e8') ((Ext.upd (o := .lst [.str "text", od]) hl3) _ _ fG13)
  have hb14 := ((hb11.n e12).ext e8').set (o := .lst ([.ref l1, .ref l2] ++ [.ref l3])) hGb
  have k414 : KpT b H4 (upd (upd H13 l3 (.lst [.str "text", od])) G (.lst ([.ref l1, .ref l2] ++ [.ref l3]))) := kpt_set (k411.trans ((KpT.n e12).trans (KpT.of e8'))) nG4 hGb
  -- what is known at H11, but for G
  have k1114 : ∀ a u, a ≠ G → a ≠ b → (∀ ps, u ≠ .tbl ps) → H11 a = some u → upd (upd H13 l3 (.lst [.str "text", od])) G (.lst ([.ref l1, .ref l2] ++ [.ref l3])) a = some u := fun a u h1 h2 h3 h4 => by rw [upd_ne h1]; exact e8' _ _ (e12 _ _ h4 h3)
  have f114 := k1114 _ _ hGl1.symm hl1b lst_nt f111
  have f214 := k1114 _ _ hGl2.symm hl2b lst_nt f211
  have f314 : upd (upd H13 l3 (.lst [.str "text", od])) G (.lst ([.ref l1, .ref l2] ++ [.ref l3])) l3 = some (.lst [.str "text", od]) := by rw [upd_ne hGl3.symm, upd_same]
  have fG14 : upd (upd H13 l3 (.lst [.str "text", od])) G (.lst ([.ref l1, .ref l2] ++ [.ref l3])) G = some (.lst [.ref l1, .ref l2, .ref l3]) := upd_same
  clear e8' e13 hd3 h13 hl3 fG13 f113 f213 t12 e12
  show (fun H14 => _) (upd (upd H13 l3 (.lst [.str "text", od])) G (.lst ([.ref l1, .ref l2] ++ [.ref l3])))
  generalize upd (upd H13 l3 (.lst [.str "text", od])) G (.lst ([.ref l1, .ref l2] ++ [.ref l3])) = H14 at t14 hb14 k414 k1114 f114 f214 f314 fG14
  -- what od needs stays
  have nGo : ∀ p, od = .ref p → p ≠ G := fun p e => by
    obtain ⟨bs, _, _, h3⟩ := id hVo
    exact nG10.ne (h3 p e)
  have hNo14 : NStr H14 od := by
    cases hNo with
    | non => exact .non
    | int i => exact .int i
    | lst h => exact .lst (k1114 _ _ (nGo _ rfl) (fun z => no (by rw [z])) lst_nt h)
    | tup h => exact .tup (k1114 _ _ (nGo _ rfl) (fun z => no (by rw [z])) tup_nt h)
    | dct h => exact .dct (k1114 _ _ (nGo _ rfl) (fun z => no (by rw [z])) (fun ps z => by cases z) h)
  refine ⟨_, rfl, .inl ⟨rfl, _, SqL.of fG14⟩, t14, fun H15 e15 t15 => ⟨_, rfl, od, rfl, .inr ⟨hNo14.kpt hb14 (KpT.n e15) no, fun d4 H16 e16 hd4 h16 => ⟨d4, od, rfl, .inl ⟨rfl, h16, fun l4 hl4 => ?_⟩⟩⟩⟩⟩
  have fG16 := e16 _ _ (e15 _ _ fG14 lst_nt)
  have f316 := e16 _ _ (e15 _ _ f314 lst_nt)
  have hGl4 : G ≠ l4 := fun z => by rw [← z, fG16] at hl4; cases hl4
  have hl4b : l4 ≠ b := ((hb14.n e15).ext e16).dom hl4
  have nl4 : ∀ a, Nt b H11 a → l4 ≠ a := fun a ha z => by
    obtain ⟨h1, u, h2, h3⟩ := ha
    rw [z, (e16 _ _ (e15 _ _ (k1114 a u (fun q => hGl4 (q.symm.trans z.symm)) h1 h3 h2) h3))] at hl4
    cases hl4
  have e8' := e16.trans (Ext.upd (o := .lst [.str "text", od]) hl4)
  refine ⟨G, _, _, rfl, rfl, (Ext.upd hl4) _ _ fG16, by show 3 < sizeLine; decide, ?_⟩
  have t18 := tabs_set (o := .lst ([.ref l1, .ref l2, .ref l3] ++ [.ref l4])) (t15.ext e8') ((Ext.upd (o := .lst [.str "text", od]) hl4) _ _ fG16)
  have hb18 := ((hb14.n e15).ext e8').set (o := .lst ([.ref l1, .ref l2, .ref l3] ++ [.ref l4])) hGb
  have k418 : KpT b H4 (upd (upd H16 l4 (.lst [.str "text", od])) G (.lst ([.ref l1, .ref l2, .ref l3] ++ [.ref l4]))) := kpt_set (k414.trans ((KpT.n e15).trans (KpT.of e8'))) nG4 hGb
  have k1418 : ∀ a u, a ≠ G → a ≠ b → (∀ ps, u ≠ .tbl ps) → H14 a = some u → upd (upd H16 l4 (.lst [.str "text", od])) G (.lst ([.ref l1, .ref l2, .ref l3] ++ [.ref l4])) a = some u := fun a u h1 h2 h3 h4 => by rw [upd_ne h1]; exact e8' _ _ (e15 _ _ h4 h3)
  have k1118 : ∀ a u, a ≠ G → a ≠ b → (∀ ps, u ≠ .tbl ps) → H11 a = some u → upd (upd H16 l4 (.lst [.str "text", od])) G (.lst ([.ref l1, .ref l2, .ref l3] ++ [.ref l4])) a = some u := fun a u h1 h2 h3 h4 => k1418 a u h1 h2 h3 (k1114 a u h1 h2 h3 h4)
  have F18 : Fnd (upd (upd H16 l4 (.lst [.str "text", od])) G (.lst ([.ref l1, .ref l2, .ref l3] ++ [.ref l4]))) G l1 l2 l3 l4 x m od := ⟨upd_same, k1418 _ _ hGl1.symm hl1b lst_nt f114, k1418 _ _ hGl2.symm hl2b lst_nt f214, k1418 _ _ hGl3.symm hl3b lst_nt f314, by rw [upd_ne hGl4.symm, upd_same]⟩
  clear k1418 e8' e16 hd4 h16 hl4 fG16 f316 t15 e15
  show (fun H18 => _) (upd (upd H16 l4 (.lst [.str "text", od])) G (.lst ([.ref l1, .ref l2, .ref l3] ++ [.ref l4])))
  generalize upd (upd H16 l4 (.lst [.str "text", od])) G (.lst ([.ref l1, .ref l2, .ref l3] ++ [.ref l4])) = H18 at t18 hb18 k418 k1118 F18
  have hNo18 : NStr H18 od := by
    cases hNo with
    | non => exact .non
    | int i => exact .int i
    | lst h => exact .lst (k1118 _ _ (nGo _ rfl) (fun z => no (by rw [z])) lst_nt h)
    | tup h => exact .tup (k1118 _ _ (nGo _ rfl) (fun z => no (by rw [z])) tup_nt h)
    | dct h => exact .dct (k1118 _ _ (nGo _ rfl) (fun z => no (by rw [z])) (fun ps z => by cases z) h)
  -- due
  refine ⟨_, rfl, by show 2 ≤ sizeLine; decide, fun m1 g1 => ⟨_, rfl, by show 2 ≤ sizeLine; decide, fun m2 g2 => ⟨_, rfl, by show 2 ≤ sizeLine; decide, fun m3 g3 => ⟨_, rfl, by show 2 ≤ sizeLine; decide, fun m4 g4 => ⟨by show 4 ≤ sizeLine; decide, fun Gd g5 => ?_⟩⟩⟩⟩⟩
  have y1 := Ext.upd (o := HO.lst [.str "steps", x]) g1
  have y2 := y1.trans (Ext.upd (o := HO.lst [.str "steps", m]) g2)
  have y3 := y2.trans (Ext.upd (o := HO.lst [.str "text", od]) g3)
  have y4 := y3.trans (Ext.upd (o := HO.lst [.str "text", od]) g4)
  have y5 := y4.trans (Ext.upd (o := HO.lst [.ref m1, .ref m2, .ref m3, .ref m4]) g5)
  have x5 := Ext.upd (o := HO.lst [.ref m1, .ref m2, .ref m3, .ref m4]) g5
  have x4 := (Ext.upd (o := HO.lst [.str "text", od]) g4).trans x5
  have x3 := (Ext.upd (o := HO.lst [.str "text", od]) g3).trans x4
  have x2 := (Ext.upd (o := HO.lst [.str "steps", m]) g2).trans x3
  have x1 := (Ext.upd (o := HO.lst [.str "steps", x]) g1).trans x2
  have v1 := x2 m1 (HO.lst [.str "steps", x]) upd_same
  have w1 : Gd ≠ m1 := fun z => by
    rw [z] at g5
    have q := (((Ext.upd (o := HO.lst [.str "steps", m]) g2).trans (Ext.upd (o := HO.lst [.str "text", od]) g3)).trans (Ext.upd (o := HO.lst [.str "text", od]) g4)) m1 (HO.lst [.str "steps", x]) upd_same
    rw [q] at g5
    cases g5
  have c1 : H18 m1 = none := g1
  have v2 := x3 m2 (HO.lst [.str "steps", m]) upd_same
  have w2 : Gd ≠ m2 := fun z => by
    rw [z] at g5
    have q := ((Ext.upd (o := HO.lst [.str "text", od]) g3).trans (Ext.upd (o := HO.lst [.str "text", od]) g4)) m2 (HO.lst [.str "steps", m]) upd_same
    rw [q] at g5
    cases g5
  have c2 : H18 m2 = none := ext_none y1 g2
  have v3 := x4 m3 (HO.lst [.str "text", od]) upd_same
  have w3 : Gd ≠ m3 := fun z => by
    rw [z] at g5
    have q := (Ext.upd (o := HO.lst [.str "text", od]) g4) m3 (HO.lst [.str "text", od]) upd_same
    rw [q] at g5
    cases g5
  have c3 : H18 m3 = none := ext_none y2 g3
  have v4 := x5 m4 (HO.lst [.str "text", od]) upd_same
  have w4 : Gd ≠ m4 := fun z => by
    rw [z] at g5
    have q := (upd_same : (upd (upd (upd (upd H18 m1 (.lst [.str "steps", x])) m2 (.lst [.str "steps", m])) m3 (.lst [.str "text", od])) m4 (.lst [.str "text", od])) m4 = some (.lst [.str "text", od]))
    rw [q] at g5
    cases g5
  have c4 : H18 m4 = none := ext_none y3 g4
  have c5 : H18 Gd = none := ext_none y4 g5
  have v5 : (upd (upd (upd (upd (upd H18 m1 (.lst [.str "steps", x])) m2 (.lst [.str "steps", m])) m3 (.lst [.str "text", od])) m4 (.lst [.str "text", od])) Gd (.lst [.ref m1, .ref m2, .ref m3, .ref m4])) Gd = some (.lst [.ref m1, .ref m2, .ref m3, .ref m4]) := upd_same
  clear x1 x2 x3 x4 x5 y1 y2 y3 y4 g1 g2 g3 g4 g5
  show (fun Ht => _) (upd (upd (upd (upd (upd H18 m1 (.lst [.str "steps", x])) m2 (.lst [.str "steps", m])) m3 (.lst [.str "text", od])) m4 (.lst [.str "text", od])) Gd (.lst [.ref m1, .ref m2, .ref m3, .ref m4]))
  generalize (upd (upd (upd (upd (upd H18 m1 (.lst [.str "steps", x])) m2 (.lst [.str "steps", m])) m3 (.lst [.str "text", od])) m4 (.lst [.str "text", od])) Gd (.lst [.ref m1, .ref m2, .ref m3, .ref m4])) = H19 at y5 v1 v2 v3 v4 v5
  have F1 := F18.ext y5
  have F2 : Fnd H19 Gd m1 m2 m3 m4 x m od := ⟨v5, v1, v2, v3, v4⟩
  have k419 : KpT b H4 H19 := k418.trans (KpT.of y5)
  obtain ⟨bx, hx1, hx2, hx3⟩ := id hV4
  obtain ⟨bm, hm1, hm2, hm3⟩ := id hVm
  obtain ⟨bo, ho1, ho2, ho3, ho4⟩ := id hVo2
  have bx' : ∀ a ∈ bx, Nt b H18 a := fun a ha => (hx2 a ha).kpt k418
  have bm' : ∀ a ∈ bm, Nt b H18 a := fun a ha => (hm2 a ha).kpt k418
  have SG : ∀ a, Nt b H1 a → a ≠ G := fun a ha z => nG4 (z ▸ ha.kpt k14)
  have boG : ∀ a ∈ bo, a ≠ G := fun a ha => (ho4 a ha).elim (fun h => nG10.ne h) (SG a)
  have bo' : ∀ a ∈ bo, Nt b H18 a := fun a ha => let ⟨h1, u, h2, h3⟩ := ho2 a ha; ⟨h1, u, k1118 a u (boG a ha) h1 h3 h2, h3⟩
  have D1 : Dis G l1 l2 l3 l4 bx bm bo := ⟨fun z => nl1 (hx2 _ z), fun z => nl2 (hm2 _ z), fun z => nl3 (ho2 _ z), fun z => nl4 _ (ho2 _ z) rfl, fun z => nG4 (hx2 _ z), fun z => nG4 (hm2 _ z), fun z => boG _ z rfl, hGl1, hGl2, hGl3, hGl4⟩
  have D2 : Dis Gd m1 m2 m3 m4 bx bm bo := ⟨fun z => (bx' _ z).ne c1 rfl, fun z => (bm' _ z).ne c2 rfl, fun z => (bo' _ z).ne c3 rfl, fun z => (bo' _ z).ne c4 rfl, fun z => (bx' _ z).ne c5 rfl, fun z => (bm' _ z).ne c5 rfl, fun z => (bo' _ z).ne c5 rfl, w1, w2, w3, w4⟩
  have sx := (hx1.weak (n' := 5) (L' := 200000) (by decide) (by decide) fun _ q => q).mono k419 hSb fun a ha => (hx2 a ha).1
  have sm := hm1.mono k419 hSb fun a ha => (hm2 a ha).1
  have so := (ho1.weak (n' := 5) (L' := 200000) (by decide) (by decide) fun _ q => q).mono2 (H' := H19) fun a ha u hu h => by
    have ha' : a ≠ G ∧ a ≠ b := ha.elim (fun z => ⟨boG a z, (ho2 a z).1⟩) fun z => ⟨SG a z, z.1⟩
    exact y5 _ _ (k1118 a u ha'.1 ha'.2 hu h)
  obtain ⟨s1, r1, z1⟩ := Sh.rp (X := (cxOf CX0 P w K mg base nRef "_law_refused_right" (defScope sRef) f fd.code A outer s H E).nox) R sx (by decide)
  obtain ⟨s2, r2, z2⟩ := Sh.rp (X := (cxOf CX0 P w K mg base nRef "_law_refused_right" (defScope sRef) f fd.code A outer s H E).nox) R sm (by decide)
  obtain ⟨s3, r3, z3⟩ := Sh.rp (X := (cxOf CX0 P w K mg base nRef "_law_refused_right" (defScope sRef) f fd.code A outer s H E).nox) R so (by decide)
  refine ⟨_, rfl, nil_red ?_⟩
  refine fnd_repr F1 D1 r1 r2 r3 z1 z2 z3 fun H20 e20 => ⟨_, rfl, nil_red ?_⟩
  refine fnd_repr (F2.ext e20) D2 (r1.mono (Nat.le_refl _) (fun _ q => q) e20) (r2.mono (Nat.le_refl _) (fun _ q => q) e20) (r3.mono (Nat.le_refl _) (fun _ q => q) e20) z1 z2 z3 fun H21 e21 => ⟨rfl, ?_⟩
  have hgood : (decide (V.str (allText s1 s2 s3) = V.str (allText s1 s2 s3))) = true := decide_eq_true rfl
  refine ⟨_, rfl, _, rfl, _, rfl, by show 3 ≤ sizeLine; decide, fun c hc => ⟨c, rfl, ⟨_, SqL.of upd_same⟩, ?_⟩⟩
  have e1822 : Ext H18 (upd H21 c (.lst [x, m, od])) := (y5.trans (e20.trans e21)).trans (Ext.upd hc)
  have e1922 : Ext H19 (upd H21 c (.lst [x, m, od])) := (e20.trans e21).trans (Ext.upd hc)
  have hc22 : upd H21 c (.lst [x, m, od]) c = some (.lst [x, m, od]) := upd_same
  have hc18 : H18 c = none := ext_none (y5.trans (e20.trans e21)) hc
  generalize upd H21 c (.lst [x, m, od]) = H22 at e1822 e1922 hc22
  clear e20 e21 hc
  -- who is where
  have kdx : Kd H4 x := hSQ4.kd
  have kdm : Kd H4 m := hBm.kd
  have ntx := kdx.nt nx
  have ntm := kdm.nt nm
  have nto : ∀ p, od = .ref p → Nt b H11 p := hNo.kd.nt no
  have ntx18 : ∀ p, x = .ref p → Nt b H18 p := fun p e => (ntx p e).kpt k418
  have ntm18 : ∀ p, m = .ref p → Nt b H18 p := fun p e => (ntm p e).kpt k418
  have nto18 : ∀ p, od = .ref p → Nt b H18 p := hNo18.kd.nt no
  have d12 : ∀ p, x = .ref p → m ≠ .ref p := fun p e z => (hSQ.kd.nt nx p e).ne (hm3 p z) rfl
  have d13 : ∀ p, x = .ref p → od ≠ .ref p := fun p e z => ((ntx p e).kpt k410).ne (ho3 p z) rfl
  have d23 : ∀ p, m = .ref p → od ≠ .ref p := fun p e z => ((ntm p e).kpt k410).ne (ho3 p z) rfl
  have far : ∀ p, (x = .ref p ∨ m = .ref p ∨ od = .ref p) → p ≠ G ∧ p ≠ l1 ∧ p ≠ l2 ∧ p ≠ l3 ∧ p ≠ l4 := fun p e => by
    rcases e with e | e | e
    · exact ⟨fun z => nG4 (z ▸ ntx p e), fun z => nl1 (z ▸ ntx p e), fun z => nl2 (z ▸ ntx p e), fun z => nl3 (z ▸ (ntx p e).kpt k411), fun z => nl4 _ ((ntx p e).kpt k411) z.symm⟩
    · exact ⟨fun z => nG4 (z ▸ ntm p e), fun z => nl1 (z ▸ ntm p e), fun z => nl2 (z ▸ ntm p e), fun z => nl3 (z ▸ (ntm p e).kpt k411), fun z => nl4 _ ((ntm p e).kpt k411) z.symm⟩
    · exact ⟨nG10.ne (ho3 p e), nl10.ne (ho3 p e), nl20.ne (ho3 p e), fun z => nl3 (z ▸ nto p e), fun z => nl4 _ (nto p e) z.symm⟩
  have all18 : ∀ p, (x = .ref p ∨ m = .ref p ∨ od = .ref p) → Nt b H18 p := fun p e => e.elim (ntx18 p) fun e => e.elim (ntm18 p) (nto18 p)
  have far2 : ∀ p, (x = .ref p ∨ m = .ref p ∨ od = .ref p) → p ≠ Gd ∧ p ≠ m1 ∧ p ≠ m2 ∧ p ≠ m3 ∧ p ≠ m4 ∧ p ≠ c := fun p e => ⟨((all18 p e).ne c5).symm, ((all18 p e).ne c1).symm, ((all18 p e).ne c2).symm, ((all18 p e).ne c3).symm, ((all18 p e).ne c4).symm, ((all18 p e).ne hc18).symm⟩
  have lateF : ∀ {Hh G l1 l2 l3 l4 y}, Fnd Hh G l1 l2 l3 l4 x m od → (∀ p, y = V.ref p → p ≠ G ∧ p ≠ l1 ∧ p ≠ l2 ∧ p ≠ l3 ∧ p ≠ l4) → Fnd (lateH Hh y) G l1 l2 l3 l4 x m od := fun f h => f.late (fun z => (h _ z).1 rfl) (fun z => (h _ z).2.1 rfl) (fun z => (h _ z).2.2.1 rfl) (fun z => (h _ z).2.2.2.1 rfl) (fun z => (h _ z).2.2.2.2 rfl)
  have hb22 : BoxOk H22 b (9 + n) := (hb18.ext e1822).mono (by omega)
  have kx22 : Kd H22 x := kdx.kpt hb4 (k418.trans (KpT.of e1822)) nx
  have km22 : Kd H22 m := kdm.kpt hb4 (k418.trans (KpT.of e1822)) nm
  have ko22 : Kd H22 od := hNo18.kd.kpt hb18 (KpT.of e1822) no
  have sx22 := sx.mono2 (H' := H22) fun a _ u _ h => e1922 _ _ h
  have sm22 := sm.mono2 (H' := H22) fun a _ u _ h => e1922 _ _ h
  have so22 := so.mono2 (H' := H22) fun a _ u _ h => e1922 _ _ h
  have cne : ∀ y, (y = x ∨ y = m ∨ y = od) → y ≠ .ref c := fun y hy z => by
    rcases hy with rfl | rfl | rfl
    · exact (far2 c (.inl z)).2.2.2.2.2 rfl
    · exact (far2 c (.inr (.inl z))).2.2.2.2.2 rfl
    · exact (far2 c (.inr (.inr z))).2.2.2.2.2 rfl
  refine for_list (xs := [x, m, od]) (fun i σ Hc => (∃ z, σ = [some (.ref b), some (.ref pv), some (.str (stText st)), some (.ref o), some (.ref p11), some x, some m, some (.ref G), some od, some (.ref Gd), some (.bl true), z]) ∧ Hc = ([x, m, od].take i).foldl lateH H22) ?_ ?_ ?_ ?_
  · exact ⟨⟨none, by rw [← hgood]; rfl⟩, rfl⟩
  · rintro i σ Hc hi ⟨_, rfl⟩
    refine SqL.of ?_
    have : ∀ (ys : List V) (H0 : Hp), (∀ y ∈ ys, y ≠ .ref c) → (ys.foldl lateH H0) c = H0 c := fun ys => by
      induction ys with
      | nil => exact fun H0 _ => rfl
      | cons y ys ih => exact fun H0 h => (ih _ fun z hz => h z (List.mem_cons_of_mem _ hz)).trans (lateH_ne (h y (List.mem_cons_self ..)))
    rw [this _ _ fun y hy => cne y (by simpa using List.mem_of_mem_take hy)]
    exact hc22
  · rintro i v σ Hc hv ⟨⟨z, rfl⟩, rfl⟩
    have key : ∀ Hc : Hp, Kd Hc v → (∀ p ys, v = .ref p → Hc p = some (.lst ys) → ys.length ≤ 200000) → ∀ (D : Ends), D.nx [some (.ref b), some (.ref pv), some (.str (stText st)), some (.ref o), some (.ref p11), some x, some m, some (.ref G), some od, some (.ref Gd), some (.bl true), some v] (lateH Hc v) →
        tIfS (tB (tCB (rIsi K) (tCons (tVar 11) (tCons (tC (V.ty "list")) tNil)))) (tDrop (tBM K "list" rAppend (tVar 11) (tCons (tC (V.str "late")) tNil))) tNext D [some (.ref b), some (.ref pv), some (.str (stText st)), some (.ref o), some (.ref p11), some x, some m, some (.ref G), some od, some (.ref Gd), some (.bl true), some v] Hc := fun Hc kd hl D hq => by
      refine ⟨_, rfl, one_red (kd.isi ⟨_, rfl, iteB (fun h => ?_) (fun h => ?_)⟩)⟩
      · obtain ⟨p, ys, rfl, hp, he⟩ := lsB_true h
        rw [he] at hq
        exact ⟨_, rfl, .inl ⟨rfl, _, SqL.of hp⟩, p, _, _, rfl, rfl, hp, Nat.lt_of_le_of_lt (hl p ys rfl hp) (by decide), hq⟩
      · rw [lsB_false h] at hq
        exact hq
    match i, hv with
    | 0, hv =>
      cases hv
      exact key H22 kx22 (fun p ys e hp => sx22.len e hp) _ ⟨⟨_, rfl⟩, rfl⟩
    | 1, hv =>
      cases hv
      exact key (lateH H22 x) (Kd.late (H' := H22) km22 fun p e z => d12 p z e) (fun p ys e hp => sm22.len e ((lateH_ne (fun z => d12 p z e)).symm.trans hp)) _ ⟨⟨_, rfl⟩, rfl⟩
    | 2, hv =>
      cases hv
      exact key (lateH (lateH H22 x) m) (Kd.late (H' := H22) (Kd.late (H' := H22) ko22 fun p e z => d13 p z e) fun p e z => d23 p z e) (fun p ys e hp => so22.len e ((lateH_ne (fun z => d13 p z e)).symm.trans ((lateH_ne (fun z => d23 p z e)).symm.trans hp))) _ ⟨⟨_, rfl⟩, rfl⟩
  · rintro σ Hc ⟨⟨z, rfl⟩, rfl⟩
    have La := late3 (S := Nt b H1) (H := H22) d12 d13 d23 (fun p e z => z.ne (hx3 p e) rfl) (fun p e z => (z.kpt k13).ne (hm3 p e) rfl) (fun p e z => (z.kpt (k14.trans k410)).ne (ho3 p e) rfl)
    have F1' := lateF (y := od) (lateF (y := m) (lateF (y := x) (F1.ext e1922) fun p e => far p (.inl e)) fun p e => far p (.inr (.inl e))) fun p e => far p (.inr (.inr e))
    have F2' := lateF (y := od) (lateF (y := m) (lateF (y := x) (F2.ext e1922) fun p e => let ⟨a, b, c, d, e, _⟩ := far2 p (.inl e); ⟨a, b, c, d, e⟩) fun p e => let ⟨a, b, c, d, e, _⟩ := far2 p (.inr (.inl e)); ⟨a, b, c, d, e⟩) fun p e => let ⟨a, b, c, d, e, _⟩ := far2 p (.inr (.inr e)); ⟨a, b, c, d, e⟩
    have t23 : LamX.Tabs T (lateH (lateH (lateH H22 x) m) od) := tabs_late (tabs_late (tabs_late (t18.ext e1822)))
    have b23 : BoxOk (lateH (lateH (lateH H22 x) m) od) b (9 + n) := box_late (box_late (box_late hb22 nx) nm) no
    show (fun H23 => _) (lateH (lateH (lateH H22 x) m) od)
    generalize lateH (lateH (lateH H22 x) m) od = H23 at La F1' F2' t23 b23
    obtain ⟨s1', r1', z1'⟩ := Sh.rp (X := (cxOf CX0 P w K mg base nRef "_law_refused_right" (defScope sRef) f fd.code A outer s H E).nox) R (sx22.late La) (by decide)
    obtain ⟨s2', r2', z2'⟩ := Sh.rp (X := (cxOf CX0 P w K mg base nRef "_law_refused_right" (defScope sRef) f fd.code A outer s H E).nox) R (sm22.late La) (by decide)
    obtain ⟨s3', r3', z3'⟩ := Sh.rp (X := (cxOf CX0 P w K mg base nRef "_law_refused_right" (defScope sRef) f fd.code A outer s H E).nox) R (so22.late La) (by decide)
    refine ⟨_, rfl, _, rfl, iteT ⟨_, rfl, nil_red ?_⟩⟩
    refine fnd_repr F1' D1 r1' r2' r3' z1' z2' z3' fun H24 e24 => ⟨_, rfl, nil_red ?_⟩
    refine fnd_repr (F2'.ext e24) D2 (r1'.mono (Nat.le_refl _) (fun _ q => q) e24) (r2'.mono (Nat.le_refl _) (fun _ q => q) e24) (r3'.mono (Nat.le_refl _) (fun _ q => q) e24) z1' z2' z3' fun H25 e25 => ⟨rfl, ?_⟩
    have hgood' : (decide (V.str (allText s1' s2' s3') = V.str (allText s1' s2' s3'))) = true := decide_eq_true rfl
    have e2325 := e24.trans e25
    have fin := hQ H25 (fun a u h1 h2 h3 => ?_) ((b23.ext e2325).mono (by omega)) (t23.ext e2325)
    · rw [← hgood'] at fin
      exact fin
    · have h4 := kk1 a u h1 h2 h3
      have sa : Nt b H1 a := ⟨h1, u, h4, h2⟩
      have h5 := e1822 _ _ (k418 a u h1 h2 (k14 a u h1 h2 h4))
      rcases La a u h5 with q | ⟨q, _⟩
      · exact e2325 _ _ q
      · exact absurd sa q
end
end S78
/-! H7: the law. -/
namespace S78
open PySem PySem.Spec PyProof.Rows L2 SN HotX L2H RP
abbrev sLaw : Stmt := top 50
theorem scLaw : FnScope ["script", "k", "box", "turn"] ["script"] (defScope sLaw) := ⟨rfl, rfl, rfl, by decide +kernel, rfl, by decide +kernel, by decide +kernel⟩
def spLaw (K : PySem.W.Frag) (T : List (Addr × Str)) : Sp := fun vs H Q _ => ∃ (a : Addr) (ns : List Int), vs = [.ref a] ∧ ns.length ≤ 63 ∧ SqL K H a (ns.map V.int) ∧ LamX.Tabs T H ∧ ∀ H', Q (.bl true) H'
theorem SqL.kpt {K : PySem.W.Frag} {b a : Addr} {xs : List V} {H H' : Hp} (h : SqL K H a xs) (k : KpT b H H') (hb : H b = none) : SqL K H' a xs :=
  h.imp (fun h => h.imp (fun h => k _ _ (fun q => by rw [q, hb] at h; cases h) lst_nt h) fun ⟨o, h⟩ => ⟨o, k _ _ (fun q => by rw [q, hb] at h; cases h) (fun ps z => by cases z) h⟩) id
section
variable {P : Program} {w : World} {K : PySem.W.Frag} {mg : Str → Option Value} {base : Heap} {f : Addr} {fd : FuncData} {C IT IL IS : Addr} {T : List (Addr × Str)}
theorem ok_law (F : FnP K "law" sLaw f fd) (Tf : Fre mg) (GC : Cl P w K mg base CX0 1 "_law_cell" (spCellK K) []) (GB : Cl P w K mg base CX0 1 "_law_box" spBox []) (GK : Cl P w K mg base CX0 1 "_law_take" spTake [])
    (GR : ClG P w K mg base CX0 10 "_law_right" (spRight T)) (GF : ClG P w K mg base CX0 11 "_law_refused_right" (spRef T)) (GH : ClG P w K mg base CX0 10 "_law_hundred_right" (spHund T)) : FnG P w K mg base CX0 12 f fd ["script"] Gnil (spLaw K T) := by
  refine fn_gc F scLaw (fun vs H Q E h => by obtain ⟨a, ns, rfl, _⟩ := h; rfl) (fun A g outer s H vs Q E hg hG hr h => ?_)
  obtain ⟨a, ns, rfl, hn, hS, hTb, hQ⟩ := h
  have hgd : (A.deeper (envOfC "law" (defScope sLaw) s.heap.objs.size f fd.code)).guards = some [] := (guards_deeper A _).trans (hg.trans (congrArg some hG))
  refine ⟨_, PSs.nox (pss_cons (ps_for PassesOwn.never rfl (pi_range1 rfl Tf.range (pa_cons (pe_callB (call_max2 rfl) rfl Tf.max boot_max (pa_cons pe_int (pa_cons (pe_callB (call_min2 rfl) rfl Tf.min boot_min (pa_cons pe_int (pa_cons (pe_callB call_len_seq rfl Tf.len boot_len (pa_cons (pv 0) pa_nil)) pa_nil))) pa_nil))) pa_nil)) (pg_name (i := 1) scLaw.nd rfl (Or.inl rfl))
      (pss_cons (ps_set (i := 2) scLaw.nd rfl (Or.inl rfl) (pe_cl GB hr (by decide) rfl pass0 (pa_cons (pe_cl GC hr (by decide) rfl pass0 (pa_cons (pv 0) (pa_cons (pv 1) pa_nil))) pa_nil)))
      (pss_cons (ps_for PassesOwn.never rfl (pi_range1 rfl Tf.range (pa_cons pe_int pa_nil)) (pg_name (i := 3) scLaw.nd rfl (Or.inl rfl))
        (pss_one (ps_if (PW.pt (pw_or (pt_not (pt_val (pe_clG GR hgd hr (by decide) rfl pass0 (pa_cons (pv 2) (pa_cons (pe_cl GK hr (by decide) rfl pass0 (pa_cons (pv 2) (pa_cons pe_int pa_nil))) pa_nil))))) (pw_or1 (pt_not (pt_val (pe_clG GF hgd hr (by decide) rfl pass0 (pa_cons (pv 2) pa_nil))))))) (pss_one (ps_ret pe_bl)) pss_nil)))
      (pss_one (ps_if (pt_not (pt_val (pe_clG GH hgd hr (by decide) rfl pass0 (pa_cons (pv 2) pa_nil)))) (pss_one (ps_ret pe_bl)) pss_nil)))))
    (pss_one (ps_ret pe_bl))), ?_⟩
  refine ⟨_, rfl, a, ns.map V.int, rfl, .inl hS, _, _, rfl, _, _, rfl, _, rfl, ?_, ?_, for_range (fun i σ H' => ∃ x1 x2 x3, σ = [some (.ref a), x1, x2, x3] ∧ SqL K H' a (ns.map V.int) ∧ LamX.Tabs T H') ⟨_, _, _, rfl, hS, hTb⟩ ?_ ?_⟩
  · split <;> omega
  · rw [List.length_map]
    split <;> split <;> omega
  · rintro i σ H0 hi ⟨x1, x2, x3, rfl, hS0, t0⟩
    refine ⟨_, rfl, _, rfl, a, ns, i, (by rw [Int.zero_add]; rfl), hS0, fun c => ⟨c, rfl, fun b H1 hb e1 hbx => ?_⟩⟩
    refine ⟨3, rfl, by decide, by decide, for_range (fun j σ H' => ∃ x3, σ = [some (.ref a), some (.int (0 + (i : Int))), some (.ref b), x3] ∧ KpT b H0 H' ∧ LamX.Tabs T H' ∧ BoxOk H' b (100000 - j * 400)) ⟨_, rfl, KpT.of e1, t0.ext e1, hbx⟩ ?_ ?_⟩
    · rintro j σ H2 hj ⟨x3, rfl, k2, t2, hb2⟩
      have hj3 : j < 3 := hj
      have hb2' : BoxOk H2 b ((300 + (40 + (100000 - (j + 1) * 400))) + 1) := hb2.mono (by omega)
      refine ⟨_, rfl, _, rfl, b, 10, _, rfl, by decide, by decide, hb2', fun d H3 hd0 hd1 k3 hb3 => ⟨rfl, b, d.toNat, _, by rw [Int.toNat_of_nonneg hd0], by omega, hb3, tabs_kpb t2 hb2 k3, fun H4 k4 hb4 t4 => ⟨_, rfl, iteF ?_⟩⟩⟩
      refine ⟨_, rfl, rfl, b, _, rfl, hb4, t4, fun H5 k5 hb5 t5 => ⟨_, rfl, iteF ?_⟩⟩
      exact ⟨_, rfl, ((k2.trans (KpT.kp k3)).trans k4).trans k5, t5, hb5⟩
    · rintro σ H2 ⟨x3, rfl, k2, t2, hb2⟩
      have hb2' : BoxOk H2 b (20 + 0) := hb2.mono (by show 20 ≤ 100000 - 3 * 400; decide)
      refine ⟨_, rfl, rfl, b, _, rfl, hb2', t2, fun H3 k3 hb3 t3 => ⟨_, rfl, iteF ?_⟩⟩
      exact ⟨_, _, _, rfl, SqL.kpt hS0 (k2.trans k3) hb, t3⟩
  · rintro σ H0 ⟨x1, x2, x3, rfl, hS0, t0⟩
    exact hQ H0
end
end S78
/-! H8: the law's def, called from outside. -/
namespace S78
open PySem PySem.Spec PyProof.Rows L2 SN HotX L2H RP LamX
/-- what is tracked at the start: the tables, and the script unless it stands in the written part -/
def startH (K : PySem.W.Frag) (ts : List Addr) (a : Addr) (o : Obj) (xs : List V) : Hp := fun b => if b ∈ ts then some (.tbl #[]) else if b = a ∧ K.lookup a = none then some (.frz o (.lst xs)) else none
section
variable {K : PySem.W.Frag} {ts : List Addr} {a b : Addr} {o : Obj} {xs : List V}
theorem startH_t (h : b ∈ ts) : startH K ts a o xs b = some (.tbl #[]) := if_pos h
theorem startH_a (h : a ∉ ts) (hk : K.lookup a = none) : startH K ts a o xs a = some (.frz o (.lst xs)) := (if_neg h).trans (if_pos ⟨rfl, hk⟩)
theorem startH_some {u : HO} (h : startH K ts a o xs b = some u) : (b ∈ ts ∧ u = .tbl #[]) ∨ (b ∉ ts ∧ b = a ∧ K.lookup a = none ∧ u = .frz o (.lst xs)) := by
  unfold startH at h
  by_cases h1 : b ∈ ts
  · rw [if_pos h1] at h
    exact .inl ⟨h1, (Option.some.inj h).symm⟩
  · rw [if_neg h1] at h
    by_cases h2 : b = a ∧ K.lookup a = none
    · rw [if_pos h2] at h
      exact .inr ⟨h1, h2.1, h2.2, (Option.some.inj h).symm⟩
    · rw [if_neg h2] at h
      cases h
end
theorem law_end {P : Program} {w : World} {K : PySem.W.Frag} {mg mb : Str → Option Value} {CX : CXT} {k : Nat} {fa a : Addr} {cs : List (Addr × Addr)} {fd : FuncData} {x : Str} {sp : Sp} {s₁ : Shared} {vs : List Value} {ns : List Int}
    (KX : K.In s₁.heap) (hns : s₁.heap.Ns mainGlobals mg) (hb : s₁.heap.Ns builtinsNs mb) (hbb : ∀ x : Str, x ≠ "__name__" → mb x = bootBuiltins x) (hlim : s₁.heap.NoLimit) (hg : s₁.gens = #[])
    (hT : ∀ p ∈ cs, s₁.heap.get? p.2 = some { cls := .none, data := .fields #[] }) (nT : ∀ p ∈ cs, K.lookup p.2 = none) (C : ∀ p ∈ cs, PySem.W.CodeHd s₁.heap p.1 p.2)
    (hbm : ∃ (bm : Addr) (ob : Obj), mg "__builtins__" = some (.ref bm) ∧ bm ≠ builtinsNs ∧ s₁.heap.get? bm = some ob ∧ ob.cls = .type "module" ∧ ob.dict = some builtinsNs ∧ ob.data = .plain)
    (ha : s₁.heap.get? a = some { cls := .type "list", data := .seq vs.toArray }) (hi : IntsAre vs ns) (hl : ns.length ≤ sizeLine) (hr : Room k callerA)
    (F : ∀ base : Heap, K.In base → base.Ns mainGlobals mg → (∀ p ∈ cs, TabB base mg p.1 p.2) → FnG P w K mg base CX k fa fd [x] Gnil sp) (hbind : ∀ (s : Shared) (u : Value), BindsTo s fd ⟨[u], []⟩ [(x, u)])
    (hsp : ∀ H : Hp, (∀ p ∈ cs, H p.2 = some (.tbl #[])) → SqL K H a (ns.map V.int) → sp [.ref a] H (fun v _ => v = .bl true) fun _ _ _ => False)
    (hCX : ∀ H e s', CX [] H s₁ (fun _ _ _ => False) e s' → False) :
    codeAny (model P w) callerA (.call (.ref fa) ⟨[.ref a], []⟩) (fun r s' => r = .ok (.ret (.bool true)) ∧ OldK s₁.heap s'.heap ∧ s'.os = s₁.os ∧ AllBare s'.gens) s₁ := by
  let ts := cs.map (·.2)
  let so : Obj := { cls := .type "list", data := .seq vs.toArray }
  let H := startH K ts a so (ns.map V.int)
  have rv : Vals (ns.map V.int) vs := vals_ints hi
  have tOf : ∀ b, b ∈ ts → s₁.heap.get? b = some { cls := .none, data := .fields #[] } ∧ K.lookup b = none := fun b hb => by
    obtain ⟨p, hp, rfl⟩ := List.mem_map.mp hb
    exact ⟨hT p hp, nT p hp⟩
  have tIn : ∀ p ∈ cs, p.2 ∈ ts := fun p hp => List.mem_map.mpr ⟨p, hp, rfl⟩
  have aT : a ∉ ts := fun z => by
    have q := (tOf a z).1
    rw [ha] at q
    have z' : Data.seq vs.toArray _ = Data.fields #[] := congrArg Obj.data (Option.some.inj q)
    cases z'
  -- an object that is neither a sequence nor empty fields, or stands in K, is not tracked
  have free : ∀ {b : Addr} {ob : Obj}, s₁.heap.get? b = some ob → ob.data ≠ .seq vs.toArray → ob.data ≠ .fields #[] → H b = none := fun {b ob} e h1 h2 => by
    cases q : H b with
    | none => rfl
    | some u =>
      rcases startH_some q with ⟨ht, _⟩ | ⟨_, rfl, _, _⟩
      · rw [(tOf b ht).1] at e
        cases e
        exact absurd rfl h2
      · rw [ha] at e
        cases e
        exact absurd rfl h1
  have freeK : ∀ {b : Addr} {ob : Obj}, K.lookup b = some ob → H b = none := fun {b ob} e => by
    cases q : H b with
    | none => rfl
    | some u =>
      rcases startH_some q with ⟨ht, _⟩ | ⟨_, rfl, hk, _⟩
      · rw [(tOf b ht).2] at e; cases e
      · rw [hk] at e; cases e
  have hok : HOk P w H s₁.heap := fun b u e => by
    rcases startH_some e with ⟨ht, rfl⟩ | ⟨_, rfl, _, rfl⟩
    · exact (tOf b ht).1
    · exact ⟨ha, by rw [List.length_map]; exact hl, vs, _, rv, ha⟩
  have keepB : ∀ {b : Addr} {ob : Obj}, s₁.heap.get? b = some ob → H b = none → (hidT s₁.heap H).get? b = some ob := fun e n => hidT_get e n
  have nsB : ∀ {b : Addr} {m : Str → Option Value}, s₁.heap.Ns b m → (hidT s₁.heap H).Ns b m := fun {b m} ⟨ob, es, ep, e, d, r⟩ =>
    ⟨ob, es, ep, keepB e (free e (fun z => by rw [d] at z; cases z) fun z => by rw [d] at z; cases z), d, r⟩
  have KB : K.In (hidT s₁.heap H) := fun b ob e => keepB (KX b ob e) (freeK e)
  have hM : L2.Mod K mg (hidT s₁.heap H) := ⟨KB, nsB hns, ⟨mb, nsB hb, hbb⟩, let ⟨mc, h1, h2⟩ := hlim; ⟨mc, nsB h1, h2⟩⟩
  have TB : ∀ p ∈ cs, TabB (hidT s₁.heap H) mg p.1 p.2 := fun p hp => by
    refine ⟨?_, ?_, fun z => ?_⟩
    · obtain ⟨ob, us, file, tf, flags, tg, inF, text, tt, e1, r1, r2, r3, rest⟩ := C p hp
      refine ⟨ob, us, file, tf, flags, tg, inF, text, tt, keepB e1 (free e1 (fun z => ?_) fun z => ?_), r1, r2, r3, rest⟩
      · rw [r2] at z
        cases z
      · rw [r2] at z
        cases z
        simp at r3
    · obtain ⟨bm, ob, b1, b2, b3, b4, b5, b6⟩ := hbm
      refine ⟨bm, ob, b1, b2, fun q => ?_, fun q => ?_, keepB b3 (free b3 (fun z => ?_) fun z => ?_), b4, b5, b6⟩
      · obtain ⟨o2, es, ep, e, hd, _⟩ := hns
        rw [q, e] at b3
        cases b3
        rw [hd] at b6
        cases b6
      · rw [q, hT p hp] at b3
        cases b3
        cases b6
      · rw [b6] at z
        cases z
      · rw [b6] at z
        cases z
    · obtain ⟨o2, es, ep, e, hd, _⟩ := hns
      rw [z, hT p hp] at e
      cases e
      cases hd
  have e0 : Env0 P w K mg (hidT s₁.heap H) callerA [] s₁ H := ⟨rfl, hM, fun b ob e => of_hidT e, Nat.le_of_eq (hidT_size _ _), trivial, fun b hb => absurd (show b ∈ ([] : List Addr) from hb) (by simp), hok, .of_eq hg⟩
  have hS : SqL K H a (ns.map V.int) := by
    cases hk : K.lookup a with
    | none => exact .inl (.inr ⟨so, startH_a aT hk⟩)
    | some ob =>
      have e := KX a ob hk
      rw [ha] at e
      cases e
      exact .inr ⟨_, vs.toArray, _, hk, rfl, rfl, rfl, by rw [List.size_toArray, hi.length]; exact hl, by simpa using rv⟩
  have guards0 : callerA.guards = some [] := rfl
  refine codeAny_mono ((F _ KB (nsB hns) TB).run callerA [] [] s₁ H ⟨[.ref a], []⟩ [.ref a] [.ref a] _ _ guards0 rfl hr e0 (hbind s₁ (.ref a)) (.cons rfl .nil) (hsp H (fun p hp => startH_t (tIn p hp)) hS)) fun r s' h => ?_
  cases r with
  | error e => exact (hCX H e s' h).elim
  | ok fl =>
    cases fl with
    | next => exact False.elim h
    | brk => exact False.elim h
    | cont => exact False.elim h
    | ret u =>
      obtain ⟨v, H', os, bare, un, hok', r', q⟩ := h
      obtain rfl : v = .bl true := q
      obtain rfl : u = Value.bool true := r'
      have same : ∀ b ob, b ∉ ts → s₁.heap.get? b = some ob → s'.heap.get? b = some ob := fun b ob nb e => by
        cases q : H b with
        | none => exact un.keep b ob e q (by intro z; exact absurd (show b ∈ ([] : List Addr) from z) (by simp)) (by simp)
        | some u =>
          rcases startH_some q with ⟨ht, _⟩ | ⟨_, rfl, _, rfl⟩
          · exact absurd ht nb
          · obtain ⟨e2, _⟩ := hok' b _ (un.frzs b _ _ q)
            rw [ha] at e
            cases e
            exact e2
      have more : ∀ p ∈ cs, ∃ l : Array Value, s'.heap.get? p.2 = some { cls := .none, data := .fields l } := fun p hp => by
        obtain ⟨l, z⟩ := un.tbls p.2 #[] (startH_t (tIn p hp))
        exact ⟨_, hok' p.2 _ z⟩
      refine ⟨rfl, ⟨fun b ob e => ?_, fun b ob e => ?_⟩, os, bare⟩
      · by_cases hb : b ∈ ts
        · obtain ⟨p, hp, rfl⟩ := List.mem_map.mp hb
          obtain ⟨l, hm⟩ := more p hp
          rw [hT p hp] at e
          cases e
          exact .inr (.inl ⟨((C p hp).tab (hT p hp)).isCodeTable, rfl, #[], l, rfl, by rw [Array.empty_append]; exact hm⟩)
        · exact .inl (same b ob hb e)
      · by_cases hb : b ∈ ts
        · obtain ⟨p, hp, rfl⟩ := List.mem_map.mp hb
          obtain ⟨l, hm⟩ := more p hp
          exact ⟨_, hm⟩
        · exact ⟨ob, same b ob hb e⟩
end S78
/-! H9: what the head is asked, as Bools. -/
namespace S78
open PySem PySem.Spec PyProof.Rows L2 SN HotX L2H RP LamX He
def oexB (K : PySem.W.Frag) (C : Addr) : Bool :=
  (match K.lookup C with
  | some ⟨.type "type", _, .cls cd, sl⟩ => (match cd.mro, sl.toList with
    | .ref C' :: bm, [_, _, _, _, some (.builtin n), _] => decide (C' = C) && (decide (n = "ValueError.__new__") && (!cd.hasDel && (cd.hasDict && PySem.HandSPX.refsVE bm)))
    | _, _ => false)
  | _ => false) && (decide (PySem.W.findIn K (.ref C) "__setattr__" = some (some (.builtin "object.__setattr__"))) && (decide (PySem.W.subIn K (.ref C) (.type "BaseException") = some true) && (decide (PySem.W.typeIn K (.ref C) = some (.type "type")) && PySem.W.keepIn K (.ref C))))
theorem bAnd {a b : Bool} (h : (a && b) = true) : a = true ∧ b = true := Bool.and_eq_true_iff.mp h
theorem oexB_ok {K : PySem.W.Frag} {C : Addr} (h : oexB K C = true) : OexC K C := by
  obtain ⟨q, h⟩ := bAnd h
  obtain ⟨h2, h⟩ := bAnd h
  obtain ⟨h3, h⟩ := bAnd h
  obtain ⟨h4, h5⟩ := bAnd h
  refine ⟨?_, of_decide_eq_true h2, of_decide_eq_true h3, of_decide_eq_true h4, h5⟩
  split at q
  · next dd cd sl ho =>
    split at q
    · next C' bm k0 k1 k2 k3 nn k5 hm hs =>
      obtain ⟨a1, q⟩ := bAnd q
      obtain ⟨a2, q⟩ := bAnd q
      obtain ⟨a3, q⟩ := bAnd q
      obtain ⟨a4, a5⟩ := bAnd q
      have a1 := of_decide_eq_true a1
      have a2 := of_decide_eq_true a2
      subst a1 a2
      obtain ⟨nm, bs, mro, ns, qn, hd, sn, sub, ab, col, del⟩ := cd
      simp only at hm a3 a4
      subst hm
      have a3 : del = false := by cases del <;> simp_all
      subst a3
      subst a4
      have hsl : sl = #[k0, k1, k2, k3, some (.builtin "ValueError.__new__"), k5] := by
        obtain ⟨l⟩ := sl
        simp only at hs
        rw [hs]
      subst hsl
      exact ⟨nm, qn, ns, bs, bm, sn, sub, ab, col, dd, k0, k1, k2, k3, k5, ho, a5⟩
    · cases q
  · cases q
def binB (K : PySem.W.Frag) (B : Addr) : Bool := PySem.W.readsIn K B (.type "type") && (decide (PySem.W.specialIn K (.ref B) "__getattribute__" = some (some (.builtin "type.__getattribute__"))) && (match PySem.W.findCls K (.ref B) (.type "type") "__init__" with
  | some (.val (.builtin n)) => decide (n = "ValueError.__init__")
  | _ => false))
theorem binB_ok {K : PySem.W.Frag} {B : Addr} (h : binB K B = true) : XP.BInit K B := by
  obtain ⟨h1, h⟩ := bAnd h
  obtain ⟨h2, h3⟩ := bAnd h
  refine ⟨h1, of_decide_eq_true h2, ?_⟩
  split at h3
  · next nn e => rw [e, of_decide_eq_true h3]
  · cases h3
/-- an exception class of the package: how it is made, its own __init__, its field -/
def excB (K : PySem.W.Frag) (x fn : Str) : Bool := oexB K (ga K x) && (xfB K (ga K x) && (decide (PySem.W.findIn K (.ref (ga K x)) fn = some none) && (decide (PySem.W.findIn K (.ref (ga K x)) "__init__" = some (some (.ref (ma K (ga K x) "__init__")))) && decide (PySem.W.typeIn K (.ref (ma K (ga K x) "__init__")) = some (.type "function")))))
structure ExcK (K : PySem.W.Frag) (x fn : Str) : Prop where
  o : OexC K (ga K x)
  xf : XfC K (ga K x)
  no : PySem.W.findIn K (.ref (ga K x)) fn = some none
  i : PySem.W.findIn K (.ref (ga K x)) "__init__" = some (some (.ref (ma K (ga K x) "__init__")))
  t : PySem.W.typeIn K (.ref (ma K (ga K x) "__init__")) = some (.type "function")
theorem excB_ok {K : PySem.W.Frag} {x fn : Str} (h : excB K x fn = true) : ExcK K x fn := by
  obtain ⟨h1, h⟩ := bAnd h
  obtain ⟨h2, h⟩ := bAnd h
  obtain ⟨h3, h⟩ := bAnd h
  obtain ⟨h4, h5⟩ := bAnd h
  exact ⟨oexB_ok h1, xfB_ok h2, of_decide_eq_true h3, of_decide_eq_true h4, of_decide_eq_true h5⟩
def clB (K : PySem.W.Frag) (C : Addr) : Bool := decide (PySem.W.findIn K (.ref C) "__class__" = some (some (.builtin "object.__class__"))) && (decide (PySem.W.specialIn K (.builtin "object.__class__") "__get__" = some (some (.builtin "getset_descriptor.__get__"))) && (decide (PySem.W.takesIn K (.builtin "object.__class__") = some true) && (decide (PySem.W.mroIn K C (.type "object") = some true) &&
  (decide (PySem.W.kitOne K (.ref C) (.ref C) = some true) && (decide (PySem.W.kitOne K (.type "str") (.ref C) = some false) && (decide (PySem.W.kitOne K (.ref C) (.type "str") = some false) && decide (PySem.W.kitOne K (.type "NoneType") (.ref C) = some false)))))))
def four : List Defn := [("_law_step_told", none), ("_law_right", none), ("_law_refused_right", none), ("_law_hundred_right", none)]
def exX (K : PySem.W.Frag) : Bool := excB K "InvalidText" "value" && (excB K "InvalidSteps" "value" && (excB K "InvalidLine" "index" && (binB K (ga K "SearchError") && (clB K (ga K "Order") && decide ((four.map fun p => (cT K p).2).Nodup)))))
def fa : List Fa := [.glo "law", .glo "SearchError", .glo "InvalidText", .glo "InvalidSteps", .glo "InvalidLine", .glo "Order", .glo "is_name", .glo "is_list", .glo "split_words", .glo "checked_columns", .glo "parse_order", .glo "is_step", .glo "step_text", .glo "parse_step", .glo "steps_text", .glo "parse_steps",
  .glo "_law_cell", .glo "_law_box", .glo "_law_take", .glo "_law_mixed", .glo "_law_columns", .glo "_law_step", .glo "_law_caught", .glo "_law_named", .glo "_law_read", .glo "_law_bent", .glo "_law_due", .glo "_law_step_told", .glo "_law_right", .glo "_law_refused_right", .glo "_law_hundred_right",
  .free "len", .free "isinstance", .free "all", .free "str", .free "list", .free "tuple", .free "set", .free "enumerate", .free "max", .free "min", .free "range", .free "repr",
  .str "LETTERS" "abcdefghijklmnopqrstuvwxyz", .int "LONGEST_NAME" 8, .int "MOST_COLUMNS" 5, .str "BUILD" "build", .str "RELAY" "relay", .str "DROP" "drop", .int "MOST_STEPS" 100, .str "TOWARDS" " > ",
  .cls "Order", .noat "Order" "own_columns", .mkr "Order", .meth "Order" "columns", .meth "Order" "__eq__", .meth "Order" "__str__", .meth "Order" "__repr__",
  .exm "InvalidText" "InvalidText" true, .exm "InvalidLine" "InvalidText" false, .exm "InvalidLine" "InvalidLine" true, .exm "InvalidSteps" "InvalidText" false, .exm "InvalidSteps" "InvalidLine" false, .exm "InvalidSteps" "InvalidSteps" true]
def dF (x : Str) (i : Nat) : DefD := ⟨(x, none), x, x, defArgs (top i), defBody (top i), defScope (top i), [], []⟩
def dM (c m q : Str) (st : Stmt) : DefD := ⟨(c, some m), m, q, defArgs st, defBody st, defScope st, [], []⟩
def dSp : DefD := ⟨("split_words", none), "split_words", "split_words", defArgs sSplit, defBody sSplit, defScope sSplit, [], [("separator", .str " ")]⟩
def fn : List DefD := [dF "law" 50, dM "InvalidText" "__init__" "InvalidText.__init__" sIT, dM "InvalidSteps" "__init__" "InvalidSteps.__init__" sIS, dM "InvalidLine" "__init__" "InvalidLine.__init__" sIL,
  dF "is_name" 14, dF "is_list" 15, dSp, dF "checked_columns" 19, dM "Order" "__init__" "Order.__init__" sInit, dM "Order" "columns" "Order.columns" sCols, dM "Order" "__eq__" "Order.__eq__" sEq, dM "Order" "__str__" "Order.__str__" sStr, dM "Order" "__repr__" "Order.__repr__" sRepr,
  dF "parse_order" 21, dF "is_step" 26, dF "step_text" 30, dF "parse_step" 31, dF "steps_text" 32, dF "parse_steps" 33,
  dF "_law_cell" 35, dF "_law_box" 36, dF "_law_take" 37, dF "_law_mixed" 38, dF "_law_columns" 39, dF "_law_step" 40, dF "_law_caught" 41, dF "_law_named" 42, dF "_law_read" 43, dF "_law_bent" 44, dF "_law_due" 45, dF "_law_step_told" 46, dF "_law_right" 47, dF "_law_refused_right" 48, dF "_law_hundred_right" 49]
end S78
/-! H10: the head's run. -/
namespace S78
open PySem PySem.Spec PyProof.Rows L2
def loose1 : List PySem.Str := ["_wall", "SearchError", "MissingError", "StateError", "InvalidName", "InvalidText", "InvalidColumns", "DuplicateName", "InvalidSteps", "InvalidLine", "LETTERS", "LONGEST_NAME", "is_name", "is_list", "split_words", "MOST_COLUMNS", "checked_columns", "Order", "parse_order", "BUILD", "RELAY", "DROP", "is_step", "MOST_STEPS", "TOWARDS", "step_text", "parse_step", "steps_text", "parse_steps", "_law_cell"]
def loose2 : List PySem.Str := ["_law_box", "_law_take", "_law_mixed", "_law_columns", "_law_step", "_law_caught", "_law_named", "_law_read", "_law_bent", "_law_due", "_law_step_told", "_law_right", "_law_refused_right", "_law_hundred_right"]
abbrev loose : List PySem.Str := loose1 ++ loose2
abbrev R : PySem.W.OpenRow := PySem.W.OpenLaw.row PySem.Challenge.rw_orderwide_k78_steps_as_texts
/-- what the names reach, and the interpreter's own statics -/
def asS (g : Addr → Option Obj) : List Addr := He.asD g 5 ++ [cStatics]
def kS (g : Addr → Option Obj) : PySem.W.Frag := He.frT g (asS g)
abbrev AlS : Type := He.AlD × Bool
def obS (g : Addr → Option Obj) : AlS := (He.obsD fa fn (kS g), exX (kS g) && He.tabsB g four (kS g))
/-- what is told of h -/
structure SaysS (h : Heap) (K : PySem.W.Frag) : Prop where
  d : He.SaysD fa fn K
  more : exX K = true
  hd : ∀ p ∈ four, PySem.W.codeHdIn K (He.cT K p).1 (He.cT K p).2 = true
  out : ∀ p ∈ four, K.lookup (He.cT K p).2 = none
  empty : ∀ p ∈ four, h.get? (He.cT K p).2 = some { cls := .none, data := .fields #[] }
theorem saysS_of {h : Heap} (e : obS h.get? = (He.valD fn, true)) : SaysS h (kS h.get?) := by
  have e1 : He.obsD fa fn (kS h.get?) = He.valD fn := congrArg (fun z : AlS => z.1) e
  have e2 : (exX (kS h.get?) && He.tabsB h.get? four (kS h.get?)) = true := congrArg (fun z : AlS => z.2) e
  obtain ⟨m1, m2⟩ := bAnd e2
  have tab : ∀ p ∈ four, PySem.W.codeHdIn (kS h.get?) (He.cT (kS h.get?) p).1 (He.cT (kS h.get?) p).2 = true ∧ ∃ o, h.get? (He.cT (kS h.get?) p).2 = some o ∧ He.emptyTab o = true := fun p hp => by
    obtain ⟨t1, t2⟩ := bAnd (List.all_eq_true.mp m2 p hp)
    refine ⟨t1, ?_⟩
    revert t2
    cases h.get? (He.cT (kS h.get?) p).2 with
    | none => exact fun t2 => by cases t2
    | some o => exact fun t2 => ⟨o, rfl, t2⟩
  refine ⟨e1, m1, fun p hp => (tab p hp).1, fun p hp => ?_, fun p hp => ?_⟩
  · obtain ⟨_, o, q, z⟩ := tab p hp
    exact He.frT_none q z
  · obtain ⟨_, o, q, z⟩ := tab p hp
    rw [q, He.emptyTab_eq z]
def hk : PySem.W.Hook where
  α := AlS
  obs := fun s => obS s.heap.get?
  val := fun _ => (He.valD fn, true)
  says := fun _ h => ∃ K : PySem.W.Frag, K.In h ∧ SaysS h K
  of := fun _ _ e => ⟨_, He.frT_in, saysS_of e⟩
  keeps := fun _ _ _ ⟨K, hK, c⟩ k => ⟨K, PySem.W.Frag.In.keeps hK k, ⟨c.d, c.more, c.hd, c.out, fun p hp => k _ _ (c.empty p hp)⟩⟩
def ob (s : PySem.W.SharedT) : AlS := obS (HandSHeadRun.getT s)
theorem ob_eq (s : PySem.W.SharedT) : ob s = hk.obs s.abs := by
  have e : HandSHeadRun.getT s = s.abs.heap.get? := funext fun a => HandSHeadRun.getT_eq s a
  unfold ob
  rw [e]
  rfl
theorem run (w : World) : HandSHeadRun.RunEq R (PySem.W.view R.prog [50]) hk ob 20000 loose w := by
  intro os
  kernel_rfl
end S78
/-! H11: from what the head tells to the law's promise (printed by gen11.py). -/
namespace S78
open PySem PySem.Spec PyProof.Rows L2 SN HotX L2H RP LamX He
section
variable {P : Program} {w : World} {K : PySem.W.Frag} {h base : Heap} {mg : Str → Option Value}
theorem cl_of {CX : CXT} {k : Nat} {x : Str} {sp : Sp} {f : Addr} {fd : FuncData} {ps : List Str} (F : FnOk P w K mg base CX k f fd ps sp) (hm : mg x = some (.ref f)) (kp : PySem.W.keepIn K (.ref f) = true) (hb : Binds K fd ps []) : Cl P w K mg base CX k x sp [] := ⟨f, fd, ps, [], F, hm, kp, hb, .nil⟩
theorem clg_of {CX : CXT} {k : Nat} {x : Str} {sp : Sp} {f : Addr} {fd : FuncData} {ps : List Str} (F : FnG P w K mg base CX k f fd ps Gnil sp) (hm : mg x = some (.ref f)) (kp : PySem.W.keepIn K (.ref f) = true) (hb : Binds K fd ps []) : ClG P w K mg base CX k x sp := ⟨f, fd, ps, F, hm, kp, hb⟩
theorem Cl.imp {C1 C2 : CXT} {k : Nat} {x : Str} {sp : Sp} {dvs : List V} (c : Cl P w K mg base C1 k x sp dvs) (h : ∀ outer H s E u s', C1 outer H s E u s' → C2 outer H s E u s') : Cl P w K mg base C2 k x sp dvs := by
  obtain ⟨f, fd, ps, ds, F, q⟩ := c.ex
  exact ⟨f, fd, ps, ds, XP.FnOk.cx F h, q⟩
theorem fre_of (KH : K.In h) (NS : h.Ns mainGlobals mg) (c : SaysD fa fn K) : Fre mg := ⟨(free_ok KH NS (c.fact 31 (f := .free "len") rfl)), (free_ok KH NS (c.fact 32 (f := .free "isinstance") rfl)), (free_ok KH NS (c.fact 33 (f := .free "all") rfl)), (free_ok KH NS (c.fact 34 (f := .free "str") rfl)), (free_ok KH NS (c.fact 35 (f := .free "list") rfl)), (free_ok KH NS (c.fact 36 (f := .free "tuple") rfl)), (free_ok KH NS (c.fact 37 (f := .free "set") rfl)), (free_ok KH NS (c.fact 38 (f := .free "enumerate") rfl)), (free_ok KH NS (c.fact 39 (f := .free "max") rfl)), (free_ok KH NS (c.fact 40 (f := .free "min") rfl)), (free_ok KH NS (c.fact 41 (f := .free "range") rfl)), (free_ok KH NS (c.fact 42 (f := .free "repr") rfl))⟩
theorem cst_of (KH : K.In h) (NS : h.Ns mainGlobals mg) (c : SaysD fa fn K) : Cst mg := ⟨(str_ok KH NS (c.fact 43 (f := .str "LETTERS" "abcdefghijklmnopqrstuvwxyz") rfl)), (int_ok KH NS (c.fact 44 (f := .int "LONGEST_NAME" 8) rfl)), (int_ok KH NS (c.fact 45 (f := .int "MOST_COLUMNS" 5) rfl)), (str_ok KH NS (c.fact 46 (f := .str "BUILD" "build") rfl)), (str_ok KH NS (c.fact 47 (f := .str "RELAY" "relay") rfl)), (str_ok KH NS (c.fact 48 (f := .str "DROP" "drop") rfl)), (int_ok KH NS (c.fact 49 (f := .int "MOST_STEPS" 100) rfl)), (str_ok KH NS (c.fact 50 (f := .str "TOWARDS" " > ") rfl))⟩
theorem orF_of (KH : K.In h) (NS : h.Ns mainGlobals mg) (c : SaysD fa fn K) (b : clB K (ga K "Order") = true) : OrF K mg (ga K "Order") (ma K (ga K "Order") "__init__") (ma K (ga K "Order") "columns") (ma K (ga K "Order") "__eq__") (ma K (ga K "Order") "__str__") (ma K (ga K "Order") "__repr__") := by
  obtain ⟨b1, b⟩ := bAnd b
  obtain ⟨b2, b⟩ := bAnd b
  obtain ⟨b3, b⟩ := bAnd b
  obtain ⟨b4, b⟩ := bAnd b
  obtain ⟨b5, b⟩ := bAnd b
  obtain ⟨b6, b⟩ := bAnd b
  obtain ⟨b7, b8⟩ := bAnd b
  exact ⟨cls_ok (c.fact 51 (f := .cls "Order") rfl), noat_ok (c.fact 52 (f := .noat "Order" "own_columns") rfl), mkr_ok (c.fact 53 (f := .mkr "Order") rfl), (glo_ok KH NS (c.fact 5 (f := .glo "Order") rfl)), of_decide_eq_true b1, of_decide_eq_true b2, of_decide_eq_true b3, of_decide_eq_true b4, of_decide_eq_true b5, of_decide_eq_true b6, of_decide_eq_true b7, of_decide_eq_true b8, meth_ok (c.fact 54 (f := .meth "Order" "columns") rfl), meth_ok (c.fact 55 (f := .meth "Order" "__eq__") rfl), meth_ok (c.fact 56 (f := .meth "Order" "__str__") rfl), meth_ok (c.fact 57 (f := .meth "Order" "__repr__") rfl)⟩
theorem nodup_inj {α β : Type} {f : α → β} : ∀ {l : List α}, (l.map f).Nodup → ∀ {a b : α}, a ∈ l → b ∈ l → f a = f b → a = b
  | [], _, a, b, ha, _, _ => by cases ha
  | x :: l, h, a, b, ha, hb, e => by
    rw [List.map_cons, List.nodup_cons] at h
    have key : ∀ z ∈ l, f x ≠ f z := fun z hz q => h.1 (q ▸ List.mem_map.mpr ⟨z, hz, rfl⟩)
    rcases List.mem_cons.mp ha with ha | ha
    · rcases List.mem_cons.mp hb with hb | hb
      · rw [ha, hb]
      · exact absurd (ha ▸ e) (key b hb)
    · rcases List.mem_cons.mp hb with hb | hb
      · exact absurd (hb ▸ e.symm) (key a ha)
      · exact nodup_inj h.2 ha hb e
/-- the tables of the four defs that make lambdas -/
def tabs4 (K : PySem.W.Frag) : List (Addr × Str) := four.map fun p => ((cT K p).2, lamQ p.1 .none)
theorem tb_of {p : Defn} (hp : p ∈ four) (hn : (four.map fun p => (cT K p).2).Nodup) (TB : ∀ q ∈ four.map (cT K), TabB base mg q.1 q.2) {x qual : Str} {params : Arguments} {body : List Stmt} {scope : Scope} {dvs : List V} {kws : List (Str × V)} {fd : FuncData} (F : FunD K x qual params body scope dvs kws (fAd K p) fd) : Tb (tabs4 K) base mg fd.code (lamQ p.1 .none) := by
  obtain ⟨oc, od, dV, kV, doc, pm, an, cdv, ct, osl, e, lk, hcd, _, _⟩ := F.ex
  obtain ⟨cc, hc⟩ := codeIn_ref hcd
  have hfc : fd.code = .ref cc := by rw [e]; exact hc
  have hco : codeOf K p = cc := codeOf_eq lk hfc
  refine ⟨cc, (cT K p).2, hfc, ?_, List.mem_map.mpr ⟨p, hp, rfl⟩, fun q hq e2 => ?_⟩
  · have := TB (cT K p) (List.mem_map.mpr ⟨p, hp, rfl⟩)
    rw [← hco]
    exact this
  · obtain ⟨p', hp', rfl⟩ := List.mem_map.mp hq
    have : p' = p := by
      exact nodup_inj hn hp' hp e2
    rw [this]
theorem facts (KH : K.In h) (NS : h.Ns mainGlobals mg) (c : SaysD fa fn K) (xb : exX K = true) : ∃ fd : FuncData, (∀ (s : Shared) (v : Value), BindsTo s fd ⟨[v], []⟩ [("script", v)]) ∧ ((four.map fun p => (cT K p).2).Nodup) ∧
    ∀ base : Heap, (∀ q ∈ four.map (cT K), TabB base mg q.1 q.2) → FnG P w K mg base CX0 12 (ga K "law") fd ["script"] Gnil (spLaw K (tabs4 K)) := by
  obtain ⟨x1, xb⟩ := bAnd xb
  obtain ⟨x2, xb⟩ := bAnd xb
  obtain ⟨x3, xb⟩ := bAnd xb
  obtain ⟨x4, xb⟩ := bAnd xb
  obtain ⟨x5, x6⟩ := bAnd xb
  have eT := excB_ok x1
  have eS := excB_ok x2
  have eL := excB_ok x3
  have bi := binB_ok x4
  have nod := of_decide_eq_true x6
  have Tf := fre_of KH NS c
  have Cs := cst_of KH NS c
  have O := orF_of KH NS c x5
  have mB := (glo_ok KH NS (c.fact 1 (f := .glo "SearchError") rfl))
  obtain ⟨fd0, F0⟩ := c.def_ 0 (d := dF "law" 50) rfl
  obtain ⟨fd1, F1⟩ := c.def_ 1 (d := dM "InvalidText" "__init__" "InvalidText.__init__" sIT) rfl
  obtain ⟨fd2, F2⟩ := c.def_ 2 (d := dM "InvalidSteps" "__init__" "InvalidSteps.__init__" sIS) rfl
  obtain ⟨fd3, F3⟩ := c.def_ 3 (d := dM "InvalidLine" "__init__" "InvalidLine.__init__" sIL) rfl
  obtain ⟨fd4, F4⟩ := c.def_ 4 (d := dF "is_name" 14) rfl
  obtain ⟨fd5, F5⟩ := c.def_ 5 (d := dF "is_list" 15) rfl
  obtain ⟨fd6, F6⟩ := c.def_ 6 (d := dSp) rfl
  obtain ⟨fd7, F7⟩ := c.def_ 7 (d := dF "checked_columns" 19) rfl
  obtain ⟨fd8, F8⟩ := c.def_ 8 (d := dM "Order" "__init__" "Order.__init__" sInit) rfl
  obtain ⟨fd9, F9⟩ := c.def_ 9 (d := dM "Order" "columns" "Order.columns" sCols) rfl
  obtain ⟨fd10, F10⟩ := c.def_ 10 (d := dM "Order" "__eq__" "Order.__eq__" sEq) rfl
  obtain ⟨fd11, F11⟩ := c.def_ 11 (d := dM "Order" "__str__" "Order.__str__" sStr) rfl
  obtain ⟨fd12, F12⟩ := c.def_ 12 (d := dM "Order" "__repr__" "Order.__repr__" sRepr) rfl
  obtain ⟨fd13, F13⟩ := c.def_ 13 (d := dF "parse_order" 21) rfl
  obtain ⟨fd14, F14⟩ := c.def_ 14 (d := dF "is_step" 26) rfl
  obtain ⟨fd15, F15⟩ := c.def_ 15 (d := dF "step_text" 30) rfl
  obtain ⟨fd16, F16⟩ := c.def_ 16 (d := dF "parse_step" 31) rfl
  obtain ⟨fd17, F17⟩ := c.def_ 17 (d := dF "steps_text" 32) rfl
  obtain ⟨fd18, F18⟩ := c.def_ 18 (d := dF "parse_steps" 33) rfl
  obtain ⟨fd19, F19⟩ := c.def_ 19 (d := dF "_law_cell" 35) rfl
  obtain ⟨fd20, F20⟩ := c.def_ 20 (d := dF "_law_box" 36) rfl
  obtain ⟨fd21, F21⟩ := c.def_ 21 (d := dF "_law_take" 37) rfl
  obtain ⟨fd22, F22⟩ := c.def_ 22 (d := dF "_law_mixed" 38) rfl
  obtain ⟨fd23, F23⟩ := c.def_ 23 (d := dF "_law_columns" 39) rfl
  obtain ⟨fd24, F24⟩ := c.def_ 24 (d := dF "_law_step" 40) rfl
  obtain ⟨fd25, F25⟩ := c.def_ 25 (d := dF "_law_caught" 41) rfl
  obtain ⟨fd26, F26⟩ := c.def_ 26 (d := dF "_law_named" 42) rfl
  obtain ⟨fd27, F27⟩ := c.def_ 27 (d := dF "_law_read" 43) rfl
  obtain ⟨fd28, F28⟩ := c.def_ 28 (d := dF "_law_bent" 44) rfl
  obtain ⟨fd29, F29⟩ := c.def_ 29 (d := dF "_law_due" 45) rfl
  obtain ⟨fd30, F30⟩ := c.def_ 30 (d := dF "_law_step_told" 46) rfl
  obtain ⟨fd31, F31⟩ := c.def_ 31 (d := dF "_law_right" 47) rfl
  obtain ⟨fd32, F32⟩ := c.def_ 32 (d := dF "_law_refused_right" 48) rfl
  obtain ⟨fd33, F33⟩ := c.def_ 33 (d := dF "_law_hundred_right" 49) rfl
  have B0 : Binds K fd0 ["script"] [] := (FunD.bindsN (ps := ["script"]) F0 fun _ _ _ _ _ _ us hl => match us, hl with | [_], _ => rfl)
  have B4 : Binds K fd4 ["value"] [] := (FunD.bindsN (ps := ["value"]) F4 fun _ _ _ _ _ _ us hl => match us, hl with | [_], _ => rfl)
  have B5 : Binds K fd5 ["value"] [] := (FunD.bindsN (ps := ["value"]) F5 fun _ _ _ _ _ _ us hl => match us, hl with | [_], _ => rfl)
  have B7 : Binds K fd7 ["columns"] [] := (FunD.bindsN (ps := ["columns"]) F7 fun _ _ _ _ _ _ us hl => match us, hl with | [_], _ => rfl)
  have B13 : Binds K fd13 ["text"] [] := (FunD.bindsN (ps := ["text"]) F13 fun _ _ _ _ _ _ us hl => match us, hl with | [_], _ => rfl)
  have B14 : Binds K fd14 ["value"] [] := (FunD.bindsN (ps := ["value"]) F14 fun _ _ _ _ _ _ us hl => match us, hl with | [_], _ => rfl)
  have B15 : Binds K fd15 ["step"] [] := (FunD.bindsN (ps := ["step"]) F15 fun _ _ _ _ _ _ us hl => match us, hl with | [_], _ => rfl)
  have B16 : Binds K fd16 ["text"] [] := (FunD.bindsN (ps := ["text"]) F16 fun _ _ _ _ _ _ us hl => match us, hl with | [_], _ => rfl)
  have B17 : Binds K fd17 ["steps"] [] := (FunD.bindsN (ps := ["steps"]) F17 fun _ _ _ _ _ _ us hl => match us, hl with | [_], _ => rfl)
  have B18 : Binds K fd18 ["text"] [] := (FunD.bindsN (ps := ["text"]) F18 fun _ _ _ _ _ _ us hl => match us, hl with | [_], _ => rfl)
  have B19 : Binds K fd19 ["script", "k"] [] := (FunD.bindsN (ps := ["script", "k"]) F19 fun _ _ _ _ _ _ us hl => match us, hl with | [_, _], _ => rfl)
  have B20 : Binds K fd20 ["cell"] [] := (FunD.bindsN (ps := ["cell"]) F20 fun _ _ _ _ _ _ us hl => match us, hl with | [_], _ => rfl)
  have B21 : Binds K fd21 ["box", "many"] [] := (FunD.bindsN (ps := ["box", "many"]) F21 fun _ _ _ _ _ _ us hl => match us, hl with | [_, _], _ => rfl)
  have B22 : Binds K fd22 ["box", "things"] [] := (FunD.bindsN (ps := ["box", "things"]) F22 fun _ _ _ _ _ _ us hl => match us, hl with | [_, _], _ => rfl)
  have B23 : Binds K fd23 ["box"] [] := (FunD.bindsN (ps := ["box"]) F23 fun _ _ _ _ _ _ us hl => match us, hl with | [_], _ => rfl)
  have B24 : Binds K fd24 ["box"] [] := (FunD.bindsN (ps := ["box"]) F24 fun _ _ _ _ _ _ us hl => match us, hl with | [_], _ => rfl)
  have B25 : Binds K fd25 ["ask"] [] := (FunD.bindsN (ps := ["ask"]) F25 fun _ _ _ _ _ _ us hl => match us, hl with | [_], _ => rfl)
  have B26 : Binds K fd26 ["words"] [] := (FunD.bindsN (ps := ["words"]) F26 fun _ _ _ _ _ _ us hl => match us, hl with | [_], _ => rfl)
  have B27 : Binds K fd27 ["line"] [] := (FunD.bindsN (ps := ["line"]) F27 fun _ _ _ _ _ _ us hl => match us, hl with | [_], _ => rfl)
  have B28 : Binds K fd28 ["box", "text"] [] := (FunD.bindsN (ps := ["box", "text"]) F28 fun _ _ _ _ _ _ us hl => match us, hl with | [_, _], _ => rfl)
  have B29 : Binds K fd29 ["text"] [] := (FunD.bindsN (ps := ["text"]) F29 fun _ _ _ _ _ _ us hl => match us, hl with | [_], _ => rfl)
  have B30 : Binds K fd30 ["text"] [] := (FunD.bindsN (ps := ["text"]) F30 fun _ _ _ _ _ _ us hl => match us, hl with | [_], _ => rfl)
  have B31 : Binds K fd31 ["box", "many"] [] := (FunD.bindsN (ps := ["box", "many"]) F31 fun _ _ _ _ _ _ us hl => match us, hl with | [_, _], _ => rfl)
  have B32 : Binds K fd32 ["box"] [] := (FunD.bindsN (ps := ["box"]) F32 fun _ _ _ _ _ _ us hl => match us, hl with | [_], _ => rfl)
  have B33 : Binds K fd33 ["box"] [] := (FunD.bindsN (ps := ["box"]) F33 fun _ _ _ _ _ _ us hl => match us, hl with | [_], _ => rfl)
  have B1 : Binds K fd1 ["self", "value"] [] := (FunD.bindsN (ps := ["self", "value"]) F1 fun _ _ _ _ _ _ us hl => match us, hl with | [_, _], _ => rfl)
  have B2 : Binds K fd2 ["self", "value"] [] := (FunD.bindsN (ps := ["self", "value"]) F2 fun _ _ _ _ _ _ us hl => match us, hl with | [_, _], _ => rfl)
  have B3 : Binds K fd3 ["self", "index"] [] := (FunD.bindsN (ps := ["self", "index"]) F3 fun _ _ _ _ _ _ us hl => match us, hl with | [_, _], _ => rfl)
  have B8 : Binds K fd8 ["self", "columns"] [] := (FunD.bindsN (ps := ["self", "columns"]) F8 fun _ _ _ _ _ _ us hl => match us, hl with | [_, _], _ => rfl)
  have B9 : Binds K fd9 ["self"] [] := (FunD.bindsN (ps := ["self"]) F9 fun _ _ _ _ _ _ us hl => match us, hl with | [_], _ => rfl)
  have B10 : Binds K fd10 ["self", "other"] [] := (FunD.bindsN (ps := ["self", "other"]) F10 fun _ _ _ _ _ _ us hl => match us, hl with | [_, _], _ => rfl)
  have B11 : Binds K fd11 ["self"] [] := (FunD.bindsN (ps := ["self"]) F11 fun _ _ _ _ _ _ us hl => match us, hl with | [_], _ => rfl)
  have B12 : Binds K fd12 ["self"] [] := (FunD.bindsN (ps := ["self"]) F12 fun _ _ _ _ _ _ us hl => match us, hl with | [_], _ => rfl)
  obtain ⟨dsp, vsp, B6⟩ : ∃ ds, Vals [V.str " "] ds ∧ Binds K fd6 ["text", "separator"] ds := FunD.binds0 (ps := ["text", "separator"]) F6 1 (fun z => nomatch (show [(("separator" : Str), V.str " ")] = [] from z)) rfl fun D doc pm an cdv ct us ks h1 h2 => match us, h1, ks, h2 with | [u], _, [k], _ => ⟨_, _, _, _, _, _, rfl, rfl, rfl⟩
  refine ⟨fd0, fun s v => FunD.bindsA (ps := ["script"]) F0 (fun _ _ _ _ _ _ us hl => match us, hl with | [_], _ => rfl) s [v] rfl, nod, fun base TB => ?_⟩
  have GNm : Cl P w K mg base CX0 1 "is_name" spIsName [] := cl_of (ok_isName F4 Tf Cs) (glo_ok KH NS (c.fact 6 (f := .glo "is_name") rfl)) F4.kp B4
  have GLi : Cl P w K mg base CX0 1 "is_list" (spIsList K) [] := cl_of (ok_isList F5 Tf) (glo_ok KH NS (c.fact 7 (f := .glo "is_list") rfl)) F5.kp B5
  have GSp : Cl P w K mg base CX0 1 "split_words" spSplit [.str " "] := ⟨_, _, _, dsp, ok_split F6 Tf, (glo_ok KH NS (c.fact 8 (f := .glo "split_words") rfl)), F6.kp, B6, vsp⟩
  have GCk : Cl P w K mg base CX0 2 "checked_columns" spChk [] := cl_of (ok_chk F7 Tf Cs GLi GNm) (glo_ok KH NS (c.fact 9 (f := .glo "checked_columns") rfl)) F7.kp B7
  have M : MkOr P w K mg base (ga K "Order") := ⟨_, _, _, O.mkr, ok_init F8 O GCk, O.mC, B8⟩
  have EQ : EqF P w K mg base (ga K "Order") := ⟨_, _, _, ok_eq F10 Tf O (ok_cols F9 Tf O) B9, O.eq.at_, O.eq.fn, B10⟩
  have SO : StrO P w K mg base (ga K "Order") := ⟨_, _, _, O.st.at_, O.st.fn, ok_str F11 O, B11⟩
  have RF : RpF P w K mg base (ga K "Order") := ⟨_, _, _, ok_repr F12 O, O.rp.at_, O.rp.fn, B12⟩
  have XT : ExF P w K mg base "InvalidText" "value" (ga K "InvalidText") := ⟨eT.o, (glo_ok KH NS (c.fact 2 (f := .glo "InvalidText") rfl)), _, _, _, eT.i, eT.t, ok_IT F1 eT.o eT.no bi mB, B1⟩
  have XS : ExF P w K mg base "InvalidSteps" "value" (ga K "InvalidSteps") := ⟨eS.o, (glo_ok KH NS (c.fact 3 (f := .glo "InvalidSteps") rfl)), _, _, _, eS.i, eS.t, ok_IS F2 eS.o eS.no bi mB, B2⟩
  have XL : ExF P w K mg base "InvalidLine" "index" (ga K "InvalidLine") := ⟨eL.o, (glo_ok KH NS (c.fact 4 (f := .glo "InvalidLine") rfl)), _, _, _, eL.i, eL.t, ok_IL F3 eL.o eL.no bi mB, B3⟩
  have hII := exm_ok (c.fact 58 (f := .exm "InvalidText" "InvalidText" true) rfl)
  have GPO : Cl P w K mg base (L2N.CX P w) 5 "parse_order" (spPO (ga K "Order") (ga K "InvalidText")) [] := cl_of (ok_PO F13 Tf Cs GSp GNm M XT) (glo_ok KH NS (c.fact 10 (f := .glo "parse_order") rfl)) F13.kp B13
  have GIs : Cl P w K mg base CX0 1 "is_step" (spIsStep (ga K "Order")) [] := cl_of (ok_isStep F14 Tf Cs O) (glo_ok KH NS (c.fact 11 (f := .glo "is_step") rfl)) F14.kp B14
  have GST : Cl P w K mg base (L2N.CX P w) 5 "step_text" (spST (ga K "Order") (ga K "InvalidSteps")) [] := cl_of (ok_ST F15 Tf Cs GIs SO XS) (glo_ok KH NS (c.fact 12 (f := .glo "step_text") rfl)) F15.kp B15
  have GSS : Cl P w K mg base (L2N.CX P w) 6 "steps_text" (spSS K (ga K "Order") (ga K "InvalidSteps")) [] := cl_of (ok_SS F17 Tf Cs GLi GIs GST XS) (glo_ok KH NS (c.fact 14 (f := .glo "steps_text") rfl)) F17.kp B17
  have GPS : Cl P w K mg base (XP.CXp P w) 6 "parse_step" (spPS (ga K "Order") (ga K "InvalidText")) [] := cl_of (ok_PS F16 Tf Cs GPO XT hII) (glo_ok KH NS (c.fact 13 (f := .glo "parse_step") rfl)) F16.kp B16
  have GPX : Cl P w K mg base (L2.CX P w) 7 "parse_steps" (spPX (ga K "Order") (ga K "InvalidText") (ga K "InvalidLine")) [] := cl_of (ok_PX F18 Tf Cs GPS XT XL hII) (glo_ok KH NS (c.fact 15 (f := .glo "parse_steps") rfl)) F18.kp B18
  have Gce : Cl P w K mg base CX0 1 "_law_cell" (spCellK K) [] := cl_of (ok_cell F19 Tf) (glo_ok KH NS (c.fact 16 (f := .glo "_law_cell") rfl)) F19.kp B19
  have Gbo : Cl P w K mg base CX0 1 "_law_box" spBox [] := cl_of (ok_box F20 Tf) (glo_ok KH NS (c.fact 17 (f := .glo "_law_box") rfl)) F20.kp B20
  have Gta : Cl P w K mg base CX0 1 "_law_take" spTake [] := cl_of (ok_take F21) (glo_ok KH NS (c.fact 18 (f := .glo "_law_take") rfl)) F21.kp B21
  have Gmi : Cl P w K mg base CX0 2 "_law_mixed" spMix [] := cl_of (ok_mix F22 Tf Gta) (glo_ok KH NS (c.fact 19 (f := .glo "_law_mixed") rfl)) F22.kp B22
  have Gco : Cl P w K mg base CX0 3 "_law_columns" spLCols [] := cl_of (ok_lcols F23 Tf Gta Gmi) (glo_ok KH NS (c.fact 20 (f := .glo "_law_columns") rfl)) F23.kp B23
  have Gst : Cl P w K mg base CX0 5 "_law_step" (spLStep (ga K "Order")) [] := cl_of (ok_lstep F24 Gta Gmi Gco M) (glo_ok KH NS (c.fact 21 (f := .glo "_law_step") rfl)) F24.kp B24
  have Gna : Cl P w K mg base CX0 2 "_law_named" spNamed [] := cl_of (ok_named F26 Tf) (glo_ok KH NS (c.fact 23 (f := .glo "_law_named") rfl)) F26.kp B26
  have Gre : Cl P w K mg base CX0 5 "_law_read" (spRead (ga K "Order")) [] := cl_of (ok_read F27 Gna M) (glo_ok KH NS (c.fact 24 (f := .glo "_law_read") rfl)) F27.kp B27
  have Gdu : Cl P w K mg base CX0 6 "_law_due" (spDue (ga K "Order")) [] := cl_of (ok_due F29 Tf Gre) (glo_ok KH NS (c.fact 26 (f := .glo "_law_due") rfl)) F29.kp B29
  have Gbe : Cl P w K mg base CX0 2 "_law_bent" spBent [] := cl_of (ok_bent F28 Tf Gta) (glo_ok KH NS (c.fact 25 (f := .glo "_law_bent") rfl)) F28.kp B28
  have Cg : CgF K mg := ⟨_, _, F25, (glo_ok KH NS (c.fact 22 (f := .glo "_law_caught") rfl)), B25⟩
  have Ct : CtF K mg (ga K "InvalidText") (ga K "InvalidLine") (ga K "InvalidSteps") := ⟨(glo_ok KH NS (c.fact 2 (f := .glo "InvalidText") rfl)), (glo_ok KH NS (c.fact 4 (f := .glo "InvalidLine") rfl)), (glo_ok KH NS (c.fact 3 (f := .glo "InvalidSteps") rfl)), hII, exm_ok (c.fact 59 (f := .exm "InvalidLine" "InvalidText" false) rfl), exm_ok (c.fact 60 (f := .exm "InvalidLine" "InvalidLine" true) rfl), exm_ok (c.fact 61 (f := .exm "InvalidSteps" "InvalidText" false) rfl), exm_ok (c.fact 62 (f := .exm "InvalidSteps" "InvalidLine" false) rfl), exm_ok (c.fact 63 (f := .exm "InvalidSteps" "InvalidSteps" true) rfl), eT.xf, eL.xf, eS.xf, eT.no, eL.no, eS.no⟩
  have T30 : Tb (tabs4 K) base mg fd30.code (lamQ "_law_step_told" .none) := tb_of (p := ("_law_step_told", none)) (by decide) nod TB F30
  have T31 : Tb (tabs4 K) base mg fd31.code (lamQ "_law_right" .none) := tb_of (p := ("_law_right", none)) (by decide) nod TB F31
  have T32 : Tb (tabs4 K) base mg fd32.code (lamQ "_law_refused_right" .none) := tb_of (p := ("_law_refused_right", none)) (by decide) nod TB F32
  have T33 : Tb (tabs4 K) base mg fd33.code (lamQ "_law_hundred_right" .none) := tb_of (p := ("_law_hundred_right", none)) (by decide) nod TB F33
  have GST2 := GST.imp (C2 := L2.CX P w) fun outer H s E u s' q => XP.cx_n2 q
  have GSS2 := GSS.imp (C2 := L2.CX P w) fun outer H s E u s' q => XP.cx_n2 q
  have GPS2 := GPS.imp (C2 := L2.CX P w) fun outer H s E u s' q => XP.cx_p2 q
  have Gto : ClG P w K mg base CX0 9 "_law_step_told" (spTold (tabs4 K) (ga K "Order")) := clg_of (ok_told F30 Cg Ct T30 GPS2) (glo_ok KH NS (c.fact 27 (f := .glo "_law_step_told") rfl)) F30.kp B30
  have Gri : ClG P w K mg base CX0 10 "_law_right" (spRight (tabs4 K)) := clg_of (ok_right F31 Tf Cg Ct T31 Gst EQ Gbe Gre Gdu Gto GST GPS GSS GPX) (glo_ok KH NS (c.fact 28 (f := .glo "_law_right") rfl)) F31.kp B31
  have Grf : ClG P w K mg base CX0 11 "_law_refused_right" (spRef (tabs4 K)) := clg_of (ok_ref F32 Tf Cg Ct T32 Gst Gta GST2 GPS2 GSS2 GPX RF) (glo_ok KH NS (c.fact 29 (f := .glo "_law_refused_right") rfl)) F32.kp B32
  have Ghu : ClG P w K mg base CX0 10 "_law_hundred_right" (spHund (tabs4 K)) := clg_of (ok_hund F33 Tf Cg Ct T33 Gta M EQ GSS GSS2 GPX) (glo_ok KH NS (c.fact 30 (f := .glo "_law_hundred_right") rfl)) F33.kp B33
  exact ok_law F0 Tf Gce Gbo Gta Gri Grf Ghu
end
end S78
/-! H12: the claim. -/
open PySem PySem.W PySem.Calls PyProof.Rows
theorem PySem.Challenge.cw_orderwide_k78_steps_as_texts_holds : PySem.Challenge.rw_orderwide_k78_steps_as_texts.Holds := by
  w_on; o_law
  refine HandSHeadRun.head_any (r := OpenLaw.row PySem.Challenge.rw_orderwide_k78_steps_as_texts) (q := view (OpenLaw.row PySem.Challenge.rw_orderwide_k78_steps_as_texts).prog [50]) (H := S78.hk) (ob := S78.ob) (M := 20000) (loose := S78.loose)
    (d := HandSHeadRun.topDef (OpenLaw.row PySem.Challenge.rw_orderwide_k78_steps_as_texts).prog 50) (kwd := []) S78.ob_eq
    (by kernel_rfl) (fun s => by kernel_rfl) S78.run (by kernel_rfl) (by kernel_rfl) (by kernel_rfl) (by rfl) (by first | assumption | decide +kernel) (by decide +kernel) ⟨rfl, rfl, rfl, rfl, rfl, by decide +kernel⟩ ?hw ?hc
  case hw => w_witness2
  case hc =>
    refine Att.attach_callB (l := PySem.Challenge.rw_orderwide_k78_steps_as_texts) (n := 63) rfl (by kernel_rfl) fun w s₀ s₁ mg mb fa o pm cd doc a vs ns G Y ho hd hcd hmg0 hobj hints hlen hbits hg => ?_
    obtain ⟨K, KH, c⟩ := Y
    have hmg : mg ("law" : PySem.Str) = some (.ref fa) := by
      have e : (HandSHeadRun.topDef (OpenLaw.row PySem.Challenge.rw_orderwide_k78_steps_as_texts).prog 50).name = ("law" : PySem.Str) := by kernel_rfl
      rw [← e]
      exact hmg0
    obtain ⟨fd, hb, nod, hF⟩ := S78.facts (P := (PySem.Challenge.rw_orderwide_k78_steps_as_texts).prog) (w := w) KH G.T.g c.d c.more
    have hga := hmg.symm.trans (He.glo_ok KH G.T.g (c.d.fact 0 (f := .glo "law") rfl))
    cases hga
    refine S78.law_end (cs := S78.four.map (He.cT K)) (x := "script") (k := 12) (CX := C8.CX0) (sp := S78.spLaw K (S78.tabs4 K)) KH G.T.g G.T.b G.T.builtins G.T.nolimit hg (fun p hp => ?_) (fun p hp => ?_) (fun p hp => ?_) G.T.bmain hobj hints (Nat.le_trans hlen (by decide)) ⟨rfl, by decide, by decide⟩ (fun base _ _ TB => hF base TB) hb (fun H hH hS => ⟨a, ns, rfl, hlen, hS, fun p hp => ?_, fun _ => rfl⟩) fun _ _ _ z => z
    · obtain ⟨q, hq, rfl⟩ := List.mem_map.mp hp
      exact c.empty q hq
    · obtain ⟨q, hq, rfl⟩ := List.mem_map.mp hp
      exact c.out q hq
    · obtain ⟨q, hq, rfl⟩ := List.mem_map.mp hp
      exact PySem.W.codeHd_of_K KH (c.hd q hq)
    · obtain ⟨q, hq, rfl⟩ := List.mem_map.mp hp
      exact LamX.TabS.nil (hH _ (List.mem_map.mpr ⟨q, hq, rfl⟩))
