import PyProof.Rows.All
import Wide.All
import OpenK.AllK
import Wide.FinOn
import HandS.ForMost
import HandS.Exc
import HandS.DictComp
import KE.GoesComp
import KE.GoesRaise
import KE.KDictDisplayH
import HandS.TryOnly
import HandS.TryMany
import HandS.ExcOwn
import HandS.WordsExc
import HandS.IsInst
import HandS.Wide
import HandS.Codes
import HandS.Evl
import HandS.Walk
import HandS.EndBits
import HandS.StrMore
import HandS.ExcIs
import HandS.More
import HandS.WordsDict
import HandS.DictSub
import HandS.TupAny
import HandS.Defaults
import HandS.SetKeys
import HandS.Lambda
import HandS.Nested
import HandS.Finally
import HandS.MakeKw
import HandS.HeadHook4
import HandS.HeadNt
import HandS.HeadEnd
import HandS.EndTab
import HandS.Head2
import PySem.Challenge.RW_spreadmounts_k13_worlds_begun_and_refuse
set_option Elab.async false
set_option linter.all false
set_option maxRecDepth 100000
set_option maxHeartbeats 4000000
/-! A dict comprehension whose values may raise out of a call. -/
namespace DcE
open PySem PySem.Spec PyProof.Rows L2
section
variable {X : Cx} {pins : List (Addr × Obj)} {σ : L2.St} {H : Hp} {s s' : Shared} {E : XK} {u : Value}
theorem flies (I : Inv X pins σ H s) (c : L2.CX X.prog X.w X.stack H s E u s') :
    ∃ (a : Addr) (B : Heap) (sI : Shared) (pn : List (Addr × Obj)) (σ' : L2.St) (H' : Hp) (cls : Value) (d : Option Addr), u = .ref a ∧ Inv X pn σ' H' sI ∧ (∀ b o, sI.heap.get? b = some o → b ∉ frs X.stack → B.get? b = some o) ∧
      sI.heap.UpToSlots s'.heap ∧ HandSPX.FlyingZ B X.stack a (Zc cls d) s'.heap ∧ H' a = none ∧ s'.os = sI.os ∧ AllBare s'.gens ∧ E cls d H' := by
  obtain ⟨a0, B0, H0, cls0, d0, e0, ⟨_, _, _, oe0, vs0, T0, oT0, ts0, he0, _, hd0, h10, _, _, hT0, hdT0, h30⟩, _⟩ := id c
  obtain ⟨a, B, sI, pn, σ', H', cls, d, e, I', nb, up, sky, na, os, ag, w⟩ := XE.of_call (W := fun cls d _ H => E cls d H) I (fun _ _ _ h => h) c
  have ea : a0 = a := by
    rw [e] at e0
    injection e0 with q
    exact q.symm
  rw [ea] at he0
  have fl : HandSPX.FlyingZ B X.stack a (Zc cls d) s'.heap := by
    rcases sky with ⟨_, _, _, oe, vs, he, _, hd, h1⟩ | fl | ⟨_, _, _, oe, vs, T, oT, ts, he, _, hd, h1, _, _, hT, hdT, h3⟩
    · exfalso
      rw [he0] at he
      cases he
      rw [hd0] at hd
      cases hd
      rw [h10] at h1
      cases h1
    · exact fl
    · exfalso
      rw [he0] at he
      cases he
      rw [hd0] at hd
      cases hd
      rw [h10] at h1
      cases h1
      rw [hT0] at hT
      cases hT
      rw [hdT0] at hdT
      cases hdT
      rw [h30] at h3
      cases h3
  exact ⟨a, B, sI, pn, σ', H', cls, d, e, I', nb, up, fl, na, os, ag, w⟩
theorem but_one (h : Heap) (C : Addr) : ∃ G : Heap, (∀ b, b ≠ C → G.get? b = h.get? b) ∧ G.get? C = none := by
  obtain ⟨G, g1, g2⟩ := restrict h fun b => decide (b ≠ C)
  exact ⟨G, fun b hb => g1 b (decide_eq_true hb), g2 C (by simp)⟩
/-- out of the block: noted, the block let go, on in the def's own frame -/
theorem out {σ8 : L2.St} {H3 H8 : Hp} {s3 s8 : Shared} {scope : Scope} {ce : Env} {fp : List Addr} {use : Option (Value → Sem Unit)} {Qf : Value → Shared → Prop} {D : Value} {pn : List (Addr × Obj)} {xe : Value → Shared → Prop}
    (tk : Takes X (fun cls d _ H => E cls d H)) (hs : X.stack = X.env :: X.outer) (hf : X.env.frame = some X.env.locals) (hcf : ce.frame = X.env.frame) (cL : ce.locals = s3.heap.objs.size) (I3 : Inv X pins σ H3 s3) (f3 : ∀ b ∈ fp, FpOk X pins H3 b)
    (I8 : Inv ((X.blk s3 H3 scope ce fp).wish xe) pn σ8 H8 s8) (c : L2.CX X.prog X.w X.stack H8 s8 E u s') :
    notedBy (model X.prog X.w) X.A ce (fun e s2 => compEnds (model X.prog X.w) X.A X.xe use Qf D ce (.error e) s2) u s' := by
  obtain ⟨a, B, sI, pn', σ', H', cls, d, rfl, I, nb, up, fl, na, os, ag, hE⟩ := flies I8 c
  obtain ⟨m, hn, _⟩ := I.loc
  have hn : sI.heap.Ns ce.locals m := hn
  have fl : HandSPX.FlyingZ B X.stack a (Zc cls d) s'.heap := fl
  have nb : ∀ b o, sI.heap.get? b = some o → b ∉ frs X.stack → B.get? b = some o := nb
  have hfr : X.A.frames = some (X.env :: X.outer) := by rw [I3.ok.frames, hs]
  show wpAny _ _ (noteFrame (.ref a) ce) _ _ s'
  rw [noteFrame_env _ hcf]
  refine HandSPX.looks_onZ Zc.steady hfr hf (by rw [← hs]; exact fl) fun h1 hh up1 => ?_
  have hn1 : h1.Ns ce.locals m := Heap.Ns.upToSlots (Heap.Ns.upToSlots hn up) up1
  suffices q : CompFails (model X.prog X.w) X.A X.xe ce (.ref a) { s' with heap := h1 } by
    cases use <;> exact q
  refine ⟨m, hn1, fun h2 m2 hn2 hs2 => ?_⟩
  obtain ⟨b1, b0, f1, oe, vs, T, oT, ts, he, hz, hd, hv1, hnT, hTe, hT, hdT, h3⟩ := hh
  obtain ⟨B2, g1, g2⟩ := but_one B ce.locals
  obtain ⟨G2, k1, k2⟩ := but_one sI.heap ce.locals
  obtain ⟨oL, es, ep, hoL, hdL, _⟩ := hn1
  have naC : a ≠ ce.locals := fun z => by
    rw [z, hoL] at he
    cases he
    rw [hdL] at hd
    cases hd
  have nTC : T ≠ ce.locals := fun z => by
    rw [z, hoL] at hT
    cases hT
    rw [hdL] at hdT
    cases hdT
  have toB : ∀ b o, B2.get? b = some o → b ≠ ce.locals ∧ B.get? b = some o := fun b o e => by
    have nbC : b ≠ ce.locals := fun z => by
      rw [z, g2] at e
      cases e
    exact ⟨nbC, (g1 b nbC).symm.trans e⟩
  have noB : ∀ b, B.get? b = none → B2.get? b = none := fun b e => by
    cases q : B2.get? b with
    | none => rfl
    | some o =>
      rw [(toB b o q).2] at e
      cases e
  have st2 : B2.StaysIn h2 := fun b o e => (hs2.2 b (toB b o e).1).trans (b1 b o (toB b o e).2)
  have ff2 : h2.FunFrames B2 (X.env :: X.outer) := funFrames_none (Heap.FunFrames.sameBut hs2 hn2 f1) fun L hL => by
    obtain ⟨hb, _⟩ := f1.mem hL
    exact noB L hb
  have tr2 : HandSPX.TracedZ h2 B2 a (Zc cls d) (rawInt X.env.locals) := ⟨oe, vs, T, oT, ts, (hs2.2 a naC).trans he, hz, hd, hv1, noB T hnT, hTe, (hs2.2 T nTC).trans hT, hdT, h3⟩
  unfold PySem.passOn
  refine wpAny_bind (wpAny_field ((hs2.2 a naC).trans he) hd hv1 ?_)
  rw [if_neg (show ¬ ((Value.ref T == Value.none) = true) from by simp)]
  rw [hcf, hf]
  refine wpAny_bind (HandSPX.setFlight_anyZ st2 ff2 tr2 fun h4 t1 t2 t3 t4 => wpAny_throw (tk _ _ ?_))
  have I3' : Inv X pins σ H' { sI with heap := G2 } := by
    have un : Un (frs X.stack) fp H3 H' s3.heap sI.heap := I.base
    have nC : ∀ b o, s3.heap.get? b = some o → b ≠ ce.locals := fun b o e z => by
      have q := Heap.lt_size e
      rw [z, cL] at q
      exact Nat.lt_irrefl _ q
    refine I3.call' (ch := fp) I.os ⟨fun b o e n x y => (k1 b (nC b o e)).trans (un.keep b o e n x y), fun b o e n x y => ?_, un.free, fun b o e y => ?_, un.tups, un.frzs, un.tbls⟩ (fun b o e => ?_) I.bare fun b hb => ⟨(f3 b hb).2.2.2.1, (f3 b hb).2.1, (f3 b hb).2.2.2.2.1, (f3 b hb).2.2.2.2.2⟩
    · obtain ⟨sl, q⟩ := un.slot b o e n x y
      exact ⟨sl, (k1 b (nC b o e)).trans q⟩
    · obtain ⟨o', q⟩ := un.there b o e y
      exact ⟨o', (k1 b (nC b o e)).trans q⟩
    · have hfreeC : H' ce.locals = none := I.free
      refine (I.hok b o e).stay (fun c u hc r => (k1 c fun z => ?_).trans r) (fun _ r => r) fun _ _ r => r
      rcases hc with hc | hc
      · rw [← hc, z, hfreeC] at e
        cases e
      · rw [z, hfreeC] at hc
        cases hc
  refine ⟨a, B2, { sI with heap := G2 }, pins, σ, H', cls, d, rfl, I3', fun b o e hb => ?_, fun b o e hnf => ?_, .inr (.inr ⟨t1, noB a b0, by rw [hs]; exact t2, t3⟩), na, os, ag, hE⟩
  · have nbC : b ≠ ce.locals := fun z => by
      have e : G2.get? b = some o := e
      rw [z, k2] at e
      cases e
    exact (g1 b nbC).trans (nb b o ((k1 b nbC).symm.trans e) hb)
  · have nbC : b ≠ ce.locals := fun z => by
      have e : G2.get? b = some o := e
      rw [z, k2] at e
      cases e
    obtain ⟨s1, e1⟩ := up b o ((k1 b nbC).symm.trans e) hnf
    obtain ⟨s2, e2⟩ := up1 b _ e1 hnf
    have e3 : h2.get? b = some { o with slots := s2 } := (hs2.2 b nbC).trans e2
    obtain ⟨s3, e4⟩ := t4 b { o with slots := s2 } e3 hnf
    exact ⟨s3, e4⟩
/-- {k: v for target in iter}, v a call that may raise: D the new dict -/
def tDcE (wi : TI) (g : TG) (tk tv : TE) (vs : List Nat) : TE := fun σ H Q => wi σ H fun J H1 => ∀ D, H1 D = none → ∃ W : Nat → Nat → Hp → Prop, (∃ m, W 0 m (upd H1 D (.dK []))) ∧ ∀ i m H, W i m H →
  (J.stop i H ∧ Q (.ref D) H) ∨ (J.go i H ∧ ∃ Nx : Hp → Prop, (∀ H', Nx H' → ∃ m', m' < m ∧ W (i + 1) m' H') ∧ ∀ x H', J.yld i H x H' → g x (wipe σ vs) H' fun σ2 H2 => wipe σ2 vs = wipe σ vs ∧
    tk σ2 H2 fun y H4 => tv σ2 H4 fun z H5 => ∃ kvs k, y = kV k ∧ H5 D = some (.dK kvs) ∧ kvs.length < sizeLine ∧ Nx (upd H5 D (.dK (putK kvs k z))))
theorem pe_dcE {kx vx tg iter : Expr} {scope : Scope} {own : List (Str × Nat)} {pos : Pos} {wi : TI} {g : TG} {tk tv : TE} (hc : X.calm = true) (hN : X.N.Nodup) (tk0 : Takes X (fun cls d _ H => E cls d H)) (hst : X.stack = X.env :: X.outer) (hf : X.env.frame = some X.env.locals)
    (hi : PI X tg iter wi) (ok : BlkOk X.N X.env.scope scope own) (hg : ∀ (s : Shared) (H : Hp) (C : Addr) (cl : List (Str × Addr)) (fp : List Addr), PG (X.blk s H scope (compEnvC scope cl C X.env) fp) tg g)
    (hk : ∀ (s : Shared) (H : Hp) (C : Addr) (cl : List (Str × Addr)) (fp : List Addr), PE (X.blk s H scope (compEnvC scope cl C X.env) fp) kx tk)
    (he : ∀ (s : Shared) (H : Hp) (C : Addr) (cl : List (Str × Addr)) (fp : List Addr) (xe : Value → Shared → Prop), Passes (L2.CX X.prog X.w) ((X.blk s H scope (compEnvC scope cl C X.env) fp).wish xe) E → PE ((X.blk s H scope (compEnvC scope cl C X.env) fp).wish xe) vx tv)
    (hsf : ∀ x, foldedSetIterable iter X.env x = pure x := by intro _; rfl) :
    PE X (.DictComp kx vx [⟨tg, iter, [], 0⟩] scope pos) (tDcE wi g tk tv (own.map (·.2))) := by
  refine ⟨fun pins s σ H Q I h => ?_⟩
  rw [arm_eval_DictComp]
  have hfree : ∀ y ∈ scope.names, y.2 = .free → ∃ c, X.env.cells.lookup y.1 = some c := fun y hy e =>
    (ok.free y hy e).elim (fun k => I.ok.has _ (.inl k)) fun k => I.ok.has _ (.inr k)
  refine comprehension_at (use := none) rfl hsf (closure_ok hfree) ok.kind (fun y hy e => by rw [ok.uniq y hy, e]) (thn (hi.run pins s σ H _ I h) fun xv s1 hx => thn hx fun itv s2 h2 => ?_)
  obtain ⟨it, fp, tn, J, H2, rfl, I2, T, st2, f2, q⟩ := h2
  refine wpAny_newObj_type (newEnv_comp ?_)
  obtain ⟨W, ⟨m0, w0⟩, turn⟩ := q s2.heap.objs.size (I2.hok.fresh (Nat.le_refl _))
  have I3 : Inv X pins σ (upd H2 s2.heap.objs.size (.dK [])) { s2 with heap := s2.heap.push { cls := .type "dict", data := .dict #[] } } :=
    I2.laid (t' := s2.toks) (fun b o e => Heap.get?_push_of_some _ e) (Nat.le_refl _) (dk_empty s2.heap I2.big)
  have small : ∀ b ∈ fp, b < s2.heap.objs.size := fun b hb => Heap.lt_size (T.obj _ _ st2 b hb).choose_spec.1
  have nD : ∀ b ∈ fp, b ≠ s2.heap.objs.size := fun b hb => Nat.ne_of_lt (small b hb)
  have f3 : ∀ b ∈ fp, FpOk X pins (upd H2 s2.heap.objs.size (.dK [])) b := fun b hb => ⟨by rw [upd_ne (nD b hb)]; exact (f2 b hb).1, (f2 b hb).2⟩
  have st3 : tn 0 (s2.heap.push { cls := .type "dict", data := .dict #[] }) := T.keep _ _ _ st2 fun b _ o e => Heap.get?_push_of_some _ e
  obtain ⟨D, hD⟩ : ∃ D, D = s2.heap.objs.size := ⟨_, rfl⟩
  obtain ⟨s3, hs3⟩ : ∃ s3 : Shared, s3 = { s2 with heap := s2.heap.push { cls := .type "dict", data := .dict #[] } } := ⟨_, rfl⟩
  obtain ⟨H3, hH3⟩ : ∃ H3 : Hp, H3 = upd H2 s2.heap.objs.size (.dK []) := ⟨_, rfl⟩
  have small3 : ∀ b ∈ fp, b < s3.heap.objs.size := fun b hb => by
    rw [hs3]
    exact Nat.lt_of_lt_of_le (small b hb) (by rw [Heap.size_push]; exact Nat.le_succ _)
  have st3 : tn 0 s3.heap := by rw [hs3]; exact st3
  rw [← hD] at turn
  rw [← hH3, ← hs3] at I3
  rw [← hH3] at f3 w0
  have I4 := block_start I3 ok hN fun b hb => ⟨f3 b hb, small3 b hb⟩
  obtain ⟨ce, hce⟩ : ∃ ce : Env, ce = compEnvC scope (cellsFrom (s3.heap.objs.size + 1) scope.names (cloFrom X.env.cells scope.names [])) s3.heap.objs.size X.env := ⟨_, rfl⟩
  obtain ⟨s4, hs4⟩ : ∃ s4 : Shared, s4 = { s3 with heap := pushCells (s3.heap.push { cls := .type "dict", data := .dict #[] }) scope.names } := ⟨_, rfl⟩
  have st4 : tn 0 s4.heap := T.keep _ _ _ st3 fun b _ o e => by rw [hs4]; exact pushCells_keeps _ _ _ _ (Heap.get?_push_of_some _ e)
  have pg := hg s3 H3 s3.heap.objs.size (cellsFrom (s3.heap.objs.size + 1) scope.names (cloFrom X.env.cells scope.names [])) fp
  have pk := hk s3 H3 s3.heap.objs.size (cellsFrom (s3.heap.objs.size + 1) scope.names (cloFrom X.env.cells scope.names [])) fp
  have pv' := he s3 H3 s3.heap.objs.size (cellsFrom (s3.heap.objs.size + 1) scope.names (cloFrom X.env.cells scope.names [])) fp
  have cL : ce.locals = s3.heap.objs.size := by rw [hce]; rfl
  have hcf : ce.frame = X.env.frame := by rw [hce]; rfl
  rw [← hce] at I4 pg pk pv'
  rw [← hs4] at I4
  rw [← hs3, ← hD]
  show codeAny _ _ (.compStart (.DictComp kx vx [⟨tg, iter, [], 0⟩] scope pos) 0 (.ref it) (.ref D) (compEnvC scope (cellsFrom (s3.heap.objs.size + 1) scope.names (cloFrom X.env.cells scope.names [])) s3.heap.objs.size X.env))
    (compEnds (model X.prog X.w) X.A X.xe none (EP X pins σ Q) (.ref D) (compEnvC scope (cellsFrom (s3.heap.objs.size + 1) scope.names (cloFrom X.env.cells scope.names [])) s3.heap.objs.size X.env)) { s3 with heap := pushCells (s3.heap.push { cls := .type "dict", data := .dict #[] }) scope.names }
  rw [← hce, ← hs4]
  have stat : ∀ {σ' : L2.St} {H' : Hp} {s' : Shared}, Inv (X.blk s3 H3 scope ce fp) [] σ' H' s' → (∀ b ∈ fp, H' b = none) → ∀ b ∈ fp, FpOk (X.blk s3 H3 scope ce fp) [] H' b := fun {σ' H' s'} I' hn b hb =>
    ⟨hn b hb, (I'.ok.exf b hb).1, I'.ok.exfs b hb, .inl hb, fun x c e => (I'.ok.exf b hb).2 x c e, fun p hp => absurd (show p ∈ ([] : List (Addr × Obj)) ++ [] from hp) (by simp)⟩
  have loop : codeAny (model X.prog X.w) X.A (.compLoop (.DictComp kx vx [⟨tg, iter, [], 0⟩] scope pos) 0 (.ref it) (.ref D) ce) (compEnds (model X.prog X.w) X.A X.xe none (EP X pins σ Q) (.ref D) ce) s4 := by
    refine compLoop_anyD (fun n s' => ∃ i H', Inv (X.blk s3 H3 scope ce fp) [] (wipe σ (own.map (·.2))) H' s' ∧ tn i s'.heap ∧ (∀ b ∈ fp, H' b = none) ∧ W i n H') ?_ m0 ⟨0, H3, I4, st4, fun b hb => (f3 b hb).1, w0⟩
    rintro n s5 ⟨i, H5, I5, st5, n5, w5⟩
    rcases turn i n H5 w5 with ⟨stop, qq⟩ | ⟨go, Nx, hNx, step⟩
    · refine thnF (T.done (X.blk s3 H3 scope ce fp) rfl rfl rfl hc i [] s5 _ H5 (fun _ _ => False) I5 (stat I5 n5) st5 stop) fun r s6 ⟨hr, I6⟩ => ?_
      subst hr
      have I7 : Inv X pins σ H5 s6 := I3.call' (ch := fp) I6.os I6.base I6.hok I6.bare fun b hb => ⟨(f3 b hb).2.2.2.1, (f3 b hb).2.1, (f3 b hb).2.2.2.2.1, (f3 b hb).2.2.2.2.2⟩
      have nC : H5 s3.heap.objs.size = none := by
        have z : H5 ce.locals = none := I6.free
        rw [cL] at z
        exact z
      obtain ⟨m, hn, _⟩ := I6.loc
      have hn : s6.heap.Ns ce.locals m := hn
      obtain ⟨g0, g1, g2, g3, g4, g5⟩ := I3.fpOk (Nat.le_refl _) nC
      exact ⟨m, hn, fun h' sb => ⟨.ref D, H5, I7.turned (t' := s6.toks) (fun b o hb e => (sb.2 b (by rw [cL]; exact hb)).trans e) g0 g1 g3 g4 g5, rfl, qq⟩⟩
    · refine thnF (T.item (X.blk s3 H3 scope ce fp) rfl rfl rfl hc i [] s5 _ H5 (fun _ _ => False) I5 (stat I5 n5) st5 go) fun r s6 ⟨u, hr, h6⟩ => ?_
      subst hr
      refine thnF h6 fun _ s7 ⟨x, H7, I7, r7, y7, st7, n7⟩ => ?_
      have I7' := I7.pinned (stat I7 n7) (T.obj _ _ st7)
      refine thnF (pg.run _ s7 _ H7 x u _ I7' r7 (step x H7 y7)) fun _ s8 ⟨σ8, H8, I8, hw8, q8⟩ => ?_
      refine wpAny_pure ?_
      simp only [if_true]
      refine thnF (pk.run _ s8 σ8 H8 _ I8 q8) fun z s10 ⟨yk, H10, I10, r10, q10⟩ => ?_
      have run := (pv' (notedBy (model X.prog X.w) X.A ce fun e s2 => compEnds (model X.prog X.w) X.A X.xe none (EP X pins σ Q) (.ref D) ce (.error e) s2) (fun pn σ' H' sx e sy Ix c => out tk0 hst hf hcf cL I3 f3 Ix c)).run _ s10 σ8 H10 _ (I10.wish _) q10
      refine wpAny_mono run (fun z2 s11 ⟨yv, H11, I11, r11, kvs, k, ek, hD11, hz11, nx⟩ => ?_) fun _ _ h => h
      subst ek
      refine d_dictSet (X := X.blk s3 H3 scope ce fp) I11.unwish hD11 hz11 r10 r11 fun s12 I12 => ?_
      obtain ⟨m', hm, w'⟩ := hNx _ nx
      have pin' : ∀ b ∈ fp, ∀ o, s7.heap.get? b = some o → s12.heap.get? b = some o ∧ upd H11 D (.dK (putK kvs k yv)) b = none := fun b hb o e =>
        let z := I12.pin (b, o) (List.mem_append_right _ (List.mem_append_right _ (mem_pinsAt hb e)))
        ⟨z.1, z.2.1⟩
      have hl : (wipe σ (own.map (·.2))).length = σ8.length := by rw [← hw8, wipe_length]
      refine ⟨m', hm, i + 1, _, (I12.unpinned (pins := [])).weak hl (fun j v e => ?_), T.keep _ _ _ st7 fun b hb o e => (pin' b hb o e).1, fun b hb => ?_, w'⟩
      · rw [← hw8] at e
        exact (wipe_some e).1
      · obtain ⟨o, e, _⟩ := T.obj _ _ st7 b hb
        exact (pin' b hb o e).2
  exact codeAny_compStart_dict loop (T.self X.A 0 _ _ _ st4 loop)
/-- over a list that stays -/
theorem dce_list {K : PySem.W.Frag} {a : Addr} {xs : List V} {g : TG} {tk tv : TE} {vs : List Nat} {σ : L2.St} {H1 : Hp} {D : Addr} {Qd : Hp → Prop} (Pv : Nat → Hp → Prop) (h0 : Pv 0 (upd H1 D (.dK []))) (hl : ∀ i H, i ≤ xs.length → Pv i H → SqL K H a xs)
    (hs : ∀ i x H, xs[i]? = some x → Pv i H → g x (wipe σ vs) H fun σ2 H2 => wipe σ2 vs = wipe σ vs ∧ tk σ2 H2 fun y H4 => tv σ2 H4 fun z H5 => ∃ kvs k, y = kV k ∧ H5 D = some (.dK kvs) ∧ kvs.length < sizeLine ∧ Pv (i + 1) (upd H5 D (.dK (putK kvs k z)))) (hd : ∀ H, Pv xs.length H → Qd H) :
    ∃ W : Nat → Nat → Hp → Prop, (∃ m, W 0 m (upd H1 D (.dK []))) ∧ ∀ i m H, W i m H → ((Itl K a).stop i H ∧ Qd H) ∨ ((Itl K a).go i H ∧ ∃ Nx : Hp → Prop, (∀ H', Nx H' → ∃ m', m' < m ∧ W (i + 1) m' H') ∧
      ∀ x H', (Itl K a).yld i H x H' → g x (wipe σ vs) H' fun σ2 H2 => wipe σ2 vs = wipe σ vs ∧ tk σ2 H2 fun y H4 => tv σ2 H4 fun z H5 => ∃ kvs k, y = kV k ∧ H5 D = some (.dK kvs) ∧ kvs.length < sizeLine ∧ Nx (upd H5 D (.dK (putK kvs k z)))) := by
  refine ⟨fun i m H => m + i = xs.length ∧ Pv i H, ⟨xs.length, rfl, h0⟩, fun i m H ⟨hm, p⟩ => ?_⟩
  have q := hl i H (by omega) p
  by_cases hi : i < xs.length
  · refine .inr ⟨⟨xs, xs[i], q, List.getElem?_eq_getElem hi⟩, Pv (i + 1), fun H' p' => ⟨m - 1, by omega, by omega, p'⟩, fun x H' ⟨e, y⟩ => ?_⟩
    subst e
    exact hs i x _ (y xs q) p
  · have e : i = xs.length := by omega
    subst e
    exact .inl ⟨⟨xs, q, Nat.le_refl _⟩, hd H p⟩
end
end DcE
set_option Elab.async false
set_option linter.all false
set_option maxRecDepth 100000
set_option maxHeartbeats 4000000
namespace DcE
open PySem PySem.Spec PyProof.Rows L2
/-- {k: v}, k a tuple of ints and texts -/
def postT (p : Addr) (Q : VK) : List (V × V) → Hp → Prop := fun ps H2 => H2 p = some (.dT []) ∧ ∃ (b : Addr) (ks : List Key) (y : V), ps = [(.ref b, y)] ∧ H2 b = some (.tup (ks.map kV)) ∧ Q (.ref p) (upd H2 p (.dT [(ks, y)]))
def tDispT (tk tv : TE) : TE := fun σ H Q => ∀ p, H p = none → tPairs [(tk, tv)] σ (upd H p (.dT [])) (postT p Q)
theorem pe_dispT {X : Cx} {k v : Expr} {pos : Pos} {tk tv : TE} (hu : X.A.units + 1 < cLine) (hk : PE X k tk) (hv : PE X v tv) : PE X (.Dict [some k] [v] pos) (tDispT tk tv) := by
  refine ⟨fun pins s σ H Q I q => ?_⟩
  have hn := I.hok.fresh (Nat.le_refl s.heap.objs.size)
  have I1 := I.laid (a := s.heap.objs.size) (o := .dT []) (h' := s.heap.push { cls := .type "dict", data := .dict #[] }) (t' := s.toks) (fun _ _ z => Heap.get?_push_of_some _ z) (Nat.le_refl _) (dt_empty s.heap I.big)
  rw [arm_eval_Dict, zip_pairTrees [some k] [v] X.env pos rfl rfl, dictDisplay_pairs _ (by intro z; cases z) (by show 1 < _; decide)]
  refine wpAny_bind (wpAny_standAt (wpAny_bind (wpAny_subDictH (knd := tupleKind (mixKind X.prog X.w)) (Q := fun d s' => wpAny (model X.prog X.w) X.A (pure (Value.ref d)) (EP X pins σ Q) X.xe s') ?_ (by show 1 ≤ 15; decide) (thn ((pps_cons hk hv pps_nil).run pins _ σ _ _ I1 (q _ hn)) fun ws s2 h2 => ?_))))
  · exact (show X.A.units < cLine by omega)
  · obtain ⟨ps, H2, I2, rel, e, b, ks, y, rfl, eb, q2⟩ := h2
    cases rel with
    | cons r1 r2 =>
      rename_i vk ws'
      cases r2
      obtain ⟨u1, u2⟩ := vk
      obtain ⟨rk, rv⟩ := r1
      have ek : u1 = Value.ref b := rk
      subst ek
      obtain ⟨z, hd, xs, rel, dd⟩ := dt_of I2.hok e
      cases rel
      refine ⟨[(ks, b, u2)], ⟨rfl, rfl, key_of I2.hok eb, True.intro⟩, dd, fun h' tk dd' hs => wpAny_pure ⟨.ref s.heap.objs.size, _, ?_, rfl, q2⟩⟩
      obtain ⟨o, es, ep, ho, h2, h3, h4, _, h5⟩ := dd'
      refine d_write I2 (by rw [e]; exact True.intro) hs ⟨o, ho⟩ ⟨by show 1 ≤ sizeLine; decide, hd, [(ks, b, u2)], .cons ⟨rfl, ?_, rv⟩ .nil, o, es, ep, ho, h2, h3, h4, h5⟩
      rw [upd_ne (ne_of eb e (fun z => nomatch z))]
      exact eb
end DcE
set_option Elab.async false
set_option linter.all false
set_option maxRecDepth 100000
set_option maxHeartbeats 4000000
namespace Cm
open PySem PySem.Spec PyProof.Rows L2
/-- all but l is as it was -/
def But (l : Addr) (H H' : Hp) : Prop := ∀ b o, b ≠ l → H b = some o → H' b = some o
theorem But.refl (l : Addr) (H : Hp) : But l H H := fun _ _ _ h => h
theorem But.trans {l : Addr} {H H1 H2 : Hp} (a : But l H H1) (b : But l H1 H2) : But l H H2 := fun c o n h => b c o n (a c o n h)
theorem But.upd {l : Addr} {H : Hp} {o : HO} : But l H (upd H l o) := fun b u n h => by rw [upd_ne n]; exact h
theorem But.new {l p : Addr} {H : Hp} {o : HO} (h : H p = none) : But l H (L2.upd H p o) := fun b u n e => by rw [upd_ne (ne_of_none e h)]; exact e
theorem mod_nat {x b : Int} (h : 0 < b) : ∃ d : Nat, (d : Int) < b ∧ x % b = (d : Int) := by
  have h1 := Int.emod_nonneg x (show b ≠ 0 by omega)
  have h2 := Int.emod_lt_of_pos x h
  exact ⟨(x % b).toNat, by omega, by omega⟩
theorem same_new {H : Hp} {p : Addr} {o : HO} (h : H p = none) : Same H (upd H p o) := fun b x e => by
  rw [upd_ne (ne_of_none e h)]
  exact e
theorem same_mut {H H' : Hp} {p : Addr} {o : HO} (h : H p = none) (s : Same H H') : Same H (upd H' p o) := fun b x e => by
  rw [upd_ne (ne_of_none e h)]
  exact s b x e
theorem Same.but {H H' : Hp} (l : Addr) (s : Same H H') : But l H H' := fun b o _ h => s b o h
/-! ### statements by what holds ahead and behind -/
def Ho (X : Cx) (st : Stmt) (p q : L2.St → Hp → Prop) : Prop := ∃ t, PS X st t ∧ ∀ (D : Ends) σ H, p σ H → (∀ σ' H', q σ' H' → D.nx σ' H') → t D σ H
def HoR (X : Cx) (sts : List Stmt) (p : L2.St → Hp → Prop) (r : VK) : Prop := ∃ t, PSs X sts t ∧ ∀ (D : Ends) σ H, p σ H → (∀ v H', r v H' → D.rt v H') → t D σ H
theorem HoR.cons {X : Cx} {st : Stmt} {rest : List Stmt} {p q : L2.St → Hp → Prop} {r : VK} (a : Ho X st p q) (b : HoR X rest q r) : HoR X (st :: rest) p r := by
  obtain ⟨t, ht, h1⟩ := a
  obtain ⟨u, hu, h2⟩ := b
  exact ⟨_, pss_cons ht hu, fun D σ H hp hr => h1 _ σ H hp fun σ' H' hq => h2 D σ' H' hq hr⟩
/-- a def, called by its name -/
structure Cl (P : Program) (w : World) (K : PySem.W.Frag) (mg : Str → Option Value) (base : Heap) (CX : CXT) (k : Nat) (x : Str) (ps : List Str) (sp : Sp) : Prop where
  ex : ∃ f fd, FnOk P w K mg base CX k f fd ps sp ∧ mg x = some (.ref f) ∧ PySem.W.keepIn K (.ref f) = true ∧ Binds K fd ps []
section
variable {X : Cx} {CX : CXT} {k j : Nat} {x : Str} {ps : List Str} {sp : Sp} {e : Expr} {es : List Expr} {t : TA} {p pos : Pos} {E : XK}
theorem pe_cl (c : Cl X.prog X.w X.K X.mg X.base CX k x ps sp) (hr : Room j X.A) (hk : k ≤ j) (hg : Gl X x) (hx : Passes CX X E) (ha : PA X (e :: es) t)
    (hdb : (x == ("__debug__" : Str)) = false := by decide) (he : starEach (e :: es) X.env = (false, eval e X.env) :: starEach es X.env := by rfl) (hpl : (backTo pos (starEach es X.env)).any (·.1) = false := by rfl) :
    PE X (.Call (.Name x p) (e :: es) [] pos) (tCall sp [] E t) := by
  obtain ⟨f, fd, F, hm, kp, b⟩ := c.ex
  exact pe_call F (hr.mono hk) hg hm kp b .nil hx ha hdb he hpl
theorem pe_cl0 (c : Cl X.prog X.w X.K X.mg X.base CX k x ps sp) (hr : Room j X.A) (hk : k ≤ j) (hg : Gl X x) (hx : Passes CX X E)
    (hdb : (x == ("__debug__" : Str)) = false := by decide) : PE X (.Call (.Name x p) [] [] pos) (tCall sp [] E tNil) := by
  obtain ⟨f, fd, F, hm, kp, b⟩ := c.ex
  exact pe_call0 F (hr.mono hk) hg hm kp b .nil hx hdb
end
/-- xs + ys, lists that are read -/
def rCatS (K : PySem.W.Frag) : R2 := fun x y H Q => ∃ l b xs zs, x = .ref l ∧ y = .ref b ∧ SqL K H l xs ∧ SqL K H b zs ∧ xs.length + zs.length ≤ sizeLine ∧ ∀ p, H p = none → Q (.ref p) (upd H p (.lst (xs ++ zs)))
theorem op_catS {X : Cx} : OpR X (binaryOp .Add) (rCatS X.K) := by
  intro pins s σ H x y v u Q I rx ry h
  obtain ⟨l, b, xs, zs, rfl, rfl, hl, hb, hz, q⟩ := h
  cases rx
  cases ry
  obtain ⟨its, r, ⟨⟨c1, d1, t1, sl1⟩, n1, e1, k1, m1, f1⟩, z1⟩ := I.list hl
  obtain ⟨its2, r2, ⟨⟨c2, d2, t2, sl2⟩, n2, e2, k2, m2, f2⟩, z2⟩ := I.list hb
  dsimp only at k1 m1 f1 k2 m2 f2
  subst k1 m1 f1 k2 m2 f2
  have hl1 := r.length
  have hl2 := r2.length
  refine concat_meets ⟨_, e1, rfl⟩ ⟨_, e2, rfl⟩ noFill_list_add seq_list_add PySem.F.slot_list_add PySem.F.entry_list_add (PySem.F.args_list_add_2 _ _) (list_addW l b its.toArray its2.toArray n1 n2 none none sl1 sl2 (by rw [List.size_toArray, List.size_toArray, ← hl1, ← hl2]; exact hz)) ⟨e1, e2, ?_⟩
  have ea : its.toArray ++ its2.toArray = (its ++ its2).toArray := by simp
  rw [ea]
  exact ⟨.ref _, _, I.lnew (t' := s.toks) (r.append r2) (by rw [List.length_append]; exact hz), rfl, q _ I.fresh⟩
/-- a def of the top -/
structure FnFact (K : PySem.W.Frag) (x : Str) (st : Stmt) : Prop where
  ex : ∃ f fd, PySem.W.nsIn K mainGlobals x = some (some (.ref f)) ∧ Fun K x x st f fd
theorem FnFact.of {K : PySem.W.Frag} {x : Str} {st : Stmt} {f : Addr} {oc : Value} {od an : Option Addr} {sl : Array (Option Value)} {kV dc pm cd ct : Value} (a : PySem.W.nsIn K mainGlobals x = some (some (.ref f)))
    (l : K.lookup f = some ⟨oc, od, .func (PySem.W.fnOf x x (defArgs st) (defBody st) (defScope st) .none kV dc pm an cd ct), sl⟩) (c : PySem.W.codeIn K cd x = true) (k : PySem.W.keepIn K (.ref f) = true) : FnFact K x st :=
  ⟨f, _, a, fun_mk l c k⟩
theorem Cl.of {P : Program} {w : World} {K : PySem.W.Frag} {mg : Str → Option Value} {base : Heap} {CX : CXT} {k : Nat} {x : Str} {st : Stmt} {f : Addr} {fd : FuncData} {ps : List Str} {sp : Sp} {h : Heap} (X : K.In h) (G : h.Ns mainGlobals mg) (a : PySem.W.nsIn K mainGlobals x = some (some (.ref f)))
    (F : Fun K x x st f fd) (b : Binds K fd ps []) (o : FnOk P w K mg base CX k f fd ps sp) : Cl P w K mg base CX k x ps sp := ⟨f, fd, o, PySem.W.mg_of X G a, F.kp, b⟩
/-- the state of the draws -/
def StOk (st : List V) : Prop := (∃ c, st = [.int c]) ∨ ∃ a b c, st = [.int a, .int b, .int c]
/-- _law_digit -/
def spDigit : Sp := fun vs H Q _ => ∃ l st base, vs = [.ref l, .int base] ∧ H l = some (.lst st) ∧ StOk st ∧ 0 < base ∧ base < 1073741824 ∧
  ∀ (d : Nat) st' H', (d : Int) < base → StOk st' → H' l = some (.lst st') → But l H H' → Q (.int d) H'
/-- the state's list, all else as at the entry -/
structure Bs (H : Hp) (l : Addr) (H' : Hp) : Prop where
  st : ∃ st, H' l = some (.lst st) ∧ StOk st
  but : But l H H'
theorem Bs.same {H H1 H2 : Hp} {l : Addr} (b : Bs H l H1) (s : Same H1 H2) : Bs H l H2 := ⟨let ⟨st, h, o⟩ := b.st; ⟨st, s _ _ h, o⟩, b.but.trans (Same.but l s)⟩
theorem Bs.trans {H H1 H2 : Hp} {l : Addr} (a : Bs H l H1) (b : Bs H1 l H2) : Bs H l H2 := ⟨b.st, a.but.trans b.but⟩
end Cm
set_option Elab.async false
set_option linter.all false
set_option maxRecDepth 100000
namespace Tx
open PySem PySem.Spec PyProof.Rows L2
/-! ### the text by places -/
def topS (i : Nat) : Stmt := PySem.Challenge.pw_spreadmounts_k13_worlds_begun_and_refuse.main.body.getD i (.Pass ⟨0, 0, 0, 0⟩)
abbrev sWhole : Stmt := topS 12
abbrev sName : Stmt := topS 13
abbrev sPath : Stmt := topS 14
abbrev sAbs : Stmt := topS 15
abbrev sNode : Stmt := topS 18
abbrev sTree : Stmt := topS 19
abbrev sPathTo : Stmt := topS 27
abbrev sMountC : Stmt := topS 30
abbrev sTableC : Stmt := topS 31
abbrev sAreTrees : Stmt := topS 33
abbrev sWorldC : Stmt := topS 34
abbrev sPlainF : Stmt := topS 35
abbrev sLabelsC : Stmt := topS 36
abbrev sCell : Stmt := topS 38
abbrev sDigit : Stmt := topS 39
abbrev sLTree : Stmt := topS 40
abbrev sWord : Stmt := topS 41
abbrev sDoors : Stmt := topS 42
abbrev sNamed : Stmt := topS 43
abbrev sLaw : Stmt := topS 44
end Tx
set_option Elab.async false
set_option linter.all false
set_option maxRecDepth 100000
set_option maxHeartbeats 4000000
namespace Tx
open PySem PySem.Spec PyProof.Rows L2 Cm
/-! ### whole numbers, names, paths -/
inductive Wh (K : PySem.W.Frag) (H : Hp) : V → Int → Int → Bool → Prop
  | int (i lo hi : Int) : Wh K H (.int i) lo hi (decide (lo ≤ i) && decide (i ≤ hi))
  | bl (b : Bool) (lo hi : Int) : Wh K H (.bl b) lo hi false
  | other {x : V} {n : String} (lo hi : Int) (ty : TyX K H x (.type n)) (h : kitB n "int" = some false) : Wh K H x lo hi false
def spWhole (K : PySem.W.Frag) : Sp := fun vs H Q _ => ∃ x lo hi b, vs = [x, .int lo, .int hi] ∧ Wh K H x lo hi b ∧ Q (.bl b) H
def letters : Str := "abcdefghijklmnopqrstuvwxyz"
def signB (c : Nat) : Bool := decide (c ∈ letters.cps.toList)
def nameB (z : Str) : Bool := decide (1 ≤ (z.length : Int)) && (decide ((z.length : Int) ≤ 8) && (z.cps.toList.map signB).all id)
def dots : List V := [.str ".", .str ".."]
def wordB (z : Str) : Bool := inV (.str z) dots || nameB z
def wordsOf (z : Str) : List Str := Txt.split (Txt.removeprefix z "/") "/"
def pathB (z : Str) : Bool := if z = "" then false else if z = "/" then true else ((wordsOf z).map wordB).all id
/-- a text, or something else -/
inductive Tn (K : PySem.W.Frag) (H : Hp) (f : Str → Bool) : V → Bool → Prop
  | str (z : Str) (h : z.length ≤ 100000) : Tn K H f (.str z) (f z)
  | other {x : V} {n : String} (ty : TyX K H x (.type n)) (h : kitB n "str" = some false) : Tn K H f x false
def spName (K : PySem.W.Frag) : Sp := fun vs H Q _ => ∃ x b, vs = [x] ∧ Tn K H nameB x b ∧ ∀ H', Same H H' → Q (.bl b) H'
def spPath (K : PySem.W.Frag) : Sp := fun vs H Q _ => ∃ x b, vs = [x] ∧ Tn K H pathB x b ∧ ∀ H', Same H H' → Q (.bl b) H'
/-- the names that stand as built-ins -/
structure Bi (mg : Str → Option Value) : Prop where
  isin : mg "isinstance" = none
  int : mg "int" = none
  bool : mg "bool" = none
  str : mg "str" = none
  dict : mg "dict" = none
  tuple : mg "tuple" = none
  range : mg "range" = none
  len : mg "len" = none
  all : mg "all" = none
  any : mg "any" = none
  sorted : mg "sorted" = none
/-- the constants -/
structure Co (mg : Str → Option Value) : Prop where
  letters : ∃ t, mg "LETTERS" = some (.str letters t)
  nodes : ∃ t, mg "MOST_NODES" = some (.int 60 t)
  depth : ∃ t, mg "MOST_DEPTH" = some (.int 8 t)
theorem scWhole : FnScope ["thing", "low", "high"] ["thing", "low", "high"] (defScope sWhole) := ⟨rfl, rfl, rfl, by decide +kernel, rfl, by decide +kernel, by decide +kernel⟩
theorem scName : FnScope ["thing", "sign"] ["thing"] (defScope sName) := ⟨rfl, rfl, rfl, by decide +kernel, rfl, by decide +kernel, by decide +kernel⟩
theorem scPath : FnScope ["thing", "words", "word"] ["thing"] (defScope sPath) := ⟨rfl, rfl, rfl, by decide +kernel, rfl, by decide +kernel, by decide +kernel⟩
theorem take_snoc {α : Type} {l : List α} {i : Nat} {x : α} (h : l[i]? = some x) : l.take (i + 1) = l.take i ++ [x] := by
  rw [List.take_add_one, h]
  rfl
section
variable {P : Program} {w : World} {K : PySem.W.Frag} {mg : Str → Option Value} {base : Heap}
theorem ok_whole {f : Addr} {fd : FuncData} {k : Nat} (F : Fun K "is_whole" "is_whole" sWhole f fd) (B : Bi mg) : FnOk P w K mg base CX0 (k + 1) f fd ["thing", "low", "high"] (spWhole K) := by
  refine F.ok scWhole (fun vs H Q E h => ?_) (fun cdv A outer s H vs Q E hr h => ?_)
  · obtain ⟨x, lo, hi, b, rfl, _⟩ := h
    rfl
  · obtain ⟨x, lo, hi, b, rfl, hw, q⟩ := h
    refine ⟨_, pss_one (ps_ret (pe_and (pe_callB call_isi (by rfl) B.isin (by decide +kernel) (pa_cons (pv 0) (pa_cons (pe_bltn (v := .ty "int") (by rfl) B.int (by decide +kernel) rfl) pa_nil)))
      (pe_and (pe_not (pe_callB call_isi (by rfl) B.isin (by decide +kernel) (pa_cons (pv 0) (pa_cons (pe_bltn (v := .ty "bool") (by rfl) B.bool (by decide +kernel) rfl) pa_nil))))
        (pe_one (pe_chain op_le op_le (pv 1) (pv 0) (pv 2)))))), ?_⟩
    cases hw with
    | int i =>
      refine ⟨_, rfl, _, .ty "int", _, _, true, rfl, .ty _, .base (.int i), kit_ty (by decide +kernel), _, rfl, iteT ?_⟩
      refine ⟨_, rfl, _, .ty "bool", _, _, false, rfl, .ty _, .base (.int i), kit_ty (by decide +kernel), _, rfl, _, rfl, iteT ?_⟩
      refine ⟨_, rfl, _, rfl, _, _, rfl, rfl, _, rfl, ite2 (fun h => ?_) (fun h => ?_)⟩
      · refine ⟨_, rfl, _, _, rfl, rfl, ?_⟩
        rw [h] at q
        exact q
      · have h' : decide (lo ≤ i) = false := by simpa using h
        rw [h'] at q
        exact q
    | bl b =>
      refine ⟨_, rfl, _, .ty "int", _, _, true, rfl, .ty _, .base (.bl b), kit_ty (by decide +kernel), _, rfl, iteT ?_⟩
      refine ⟨_, rfl, _, .ty "bool", _, _, true, rfl, .ty _, .base (.bl b), kit_ty (by decide +kernel), _, rfl, _, rfl, iteF ?_⟩
      exact q
    | other _ _ ty hn =>
      exact ⟨_, rfl, _, .ty "int", _, _, false, rfl, .ty _, ty, kit_ty hn, _, rfl, iteF q⟩
/-- [sign in LETTERS for sign in z]: what the list holds -/
theorem signs_at (z : Str) {i : Nat} {c : Nat} (h : z.cps[i]? = some c) : (z.cps.toList.map signB)[i]? = some (signB c) := by
  rw [List.getElem?_map, Array.getElem?_toList, h]
  rfl
theorem ok_name {f : Addr} {fd : FuncData} {k : Nat} (F : Fun K "is_name" "is_name" sName f fd) (B : Bi mg) (C : Co mg) : FnOk P w K mg base CX0 (k + 1) f fd ["thing"] (spName K) := by
  obtain ⟨tl, hL⟩ := C.letters
  refine F.ok scName (fun vs H Q E h => ?_) (fun cdv A outer s H vs Q E hr h => ?_)
  · obtain ⟨x, b, rfl, _⟩ := h
    rfl
  · obtain ⟨x, b, rfl, hw, q⟩ := h
    refine ⟨_, pss_one (ps_ret (pe_and (pe_callB call_isi (by rfl) B.isin (by decide +kernel) (pa_cons (pv 0) (pa_cons (pe_bltn (v := .ty "str") (by rfl) B.str (by decide +kernel) rfl) pa_nil)))
      (pe_and (pe_chain op_le op_le pe_int (pe_callB call_len_str (by rfl) B.len PySem.boot_len (pa_cons (pv 0) pa_nil)) pe_int)
        (pe_one (pe_callB (cr_all rfl) (by rfl) B.all (by decide +kernel) (pa_cons (pe_lc (own := [("sign", 1)]) (g := gName 1) (tt := tYes) (by rfl) scName.nd (pi_str (pv 0)) (blkOk_by (own := [("sign", 1)]) (N := ["thing", "sign"]) (sc := defScope sName) (by decide +kernel)) (fun _ _ _ _ _ => pg_name (i := 1) scName.nd rfl (Or.inl rfl)) (fun _ _ _ _ _ => pts_nil)
          (fun _ _ _ _ _ => pe_cmpR op_in_sign (pv 1) (pe_glob (v := .str letters) (by rfl) hL ⟨_, rfl⟩) rfl)) pa_nil)))))), ?_⟩
    cases hw with
    | other ty hn => exact ⟨_, rfl, _, .ty "str", _, _, false, rfl, .ty _, ty, kit_ty hn, _, rfl, iteF (q H (Same.refl H))⟩
    | str z hz =>
      refine ⟨_, rfl, _, .ty "str", _, _, true, rfl, .ty _, .base (.str z), kit_ty (by decide +kernel), _, rfl, iteT ?_⟩
      refine ⟨_, rfl, z, rfl, Evl.sz_of hz, 1, _, rfl, rfl, _, rfl, ite2 (fun h1 => ?_) (fun h1 => ?_)⟩
      · refine ⟨_, _, rfl, rfl, _, rfl, ite2 (fun h2 => ?_) (fun h2 => ?_)⟩
        · refine ⟨_, rfl, z, rfl, fun D hD => lc_it walk_str (fun i H' => H' D = some (.lst (((z.cps.toList.map signB).take i).map V.bl)) ∧ Same H H') ⟨upd_same, same_new hD⟩ (fun _ _ _ _ => True.intro) ?_ ?_⟩
          · rintro i x H1 H2 hi ⟨h3, sm⟩ ⟨rfl, c, hc, rfl⟩
            refine ⟨rfl, _, rfl, c, letters, rfl, rfl, _, h3, Evl.sz_lt ?_, ?_, same_mut hD sm⟩
            · rw [List.length_map, List.length_take]
              exact Nat.lt_of_le_of_lt (Nat.min_le_left _ _) (Nat.lt_of_lt_of_le hi hz)
            · rw [upd_same, take_snoc (signs_at z hc), List.map_append]
              rfl
          · rintro H1 ⟨h3, sm⟩
            have e : (z.cps.toList.map signB).take z.cps.size = z.cps.toList.map signB := List.take_of_length_le (by rw [List.length_map, Array.length_toList]; exact Nat.le_refl _)
            rw [e] at h3
            refine ⟨D, _, rfl, SqL.of h3, ?_⟩
            have eb : nameB z = (z.cps.toList.map signB).all id := by
              unfold nameB
              rw [h1, h2, Bool.true_and, Bool.true_and]
            rw [← eb]
            exact q H1 sm
        · have eb : nameB z = false := by
            unfold nameB
            have h2' : decide ((z.length : Int) ≤ 8) = false := by simpa using h2
            rw [h2', Bool.false_and, Bool.and_false]
          rw [eb] at q
          exact q H (Same.refl H)
      · have eb : nameB z = false := by
          unfold nameB
          have h1' : decide (1 ≤ (z.length : Int)) = false := by simpa using h1
          rw [h1', Bool.false_and]
        rw [eb] at q
        exact ⟨_, rfl, iteF (q H (Same.refl H))⟩
theorem prefix_le (z : Str) : (Txt.removeprefix z "/").length ≤ z.length := by
  rw [StrLaws.removeprefix_eq]
  split
  · show (((z.cps.toList.drop _).take _).toArray).size ≤ z.cps.size
    rw [List.size_toArray, List.length_take, List.length_drop, Array.length_toList]
    omega
  · exact Nat.le_refl _
theorem opInK {X : Cx} {K : PySem.W.Frag} (h : X.K = K) : OpR X (compareOp .In) (rIn K false) := h ▸ op_in_seq
theorem ok_path {f fN : Addr} {fd fdN : FuncData} {k : Nat} (F : Fun K "is_path" "is_path" sPath f fd) (B : Bi mg) (N : Cl P w K mg base CX0 (k + 1) "is_name" ["thing"] (spName K)) : FnOk P w K mg base CX0 (k + 2) f fd ["thing"] (spPath K) := by
  refine F.ok scPath (fun vs H Q E h => ?_) (fun cdv A outer s H vs Q E hr h => ?_)
  · obtain ⟨x, b, rfl, _⟩ := h
    rfl
  · obtain ⟨x, b, rfl, hw, q⟩ := h
    refine ⟨_, pss_cons (ps_if (PW.pt (pw_or (pt_not (pt_val (pe_callB call_isi (by rfl) B.isin (by decide +kernel) (pa_cons (pv 0) (pa_cons (pe_bltn (v := .ty "str") (by rfl) B.str (by decide +kernel) rfl) pa_nil))))) (pw_or1 (pt_cmpR op_eq (pv 0) pe_str (nomark _))))) (pss_one (ps_ret pe_bl)) pss_nil)
      (pss_cons (ps_if (pt_cmpR op_eq (pv 0) pe_str (nomark _)) (pss_one (ps_ret pe_bl)) pss_nil)
      (pss_cons (ps_set (i := 1) scPath.nd rfl (.inl rfl) (pe_split (pe_bm PySem.F.plainAttrs_str PySem.F.slot_str_removeprefix PySem.F.type_str_removeprefix mt_removeprefix (pv 0) (pa_cons pe_str pa_nil)) pe_str))
      (pss_one (ps_ret (pe_callB (cr_all rfl) (by rfl) B.all (by decide +kernel) (pa_cons (pe_lc (own := [("word", 2)]) (g := gName 2) (tt := tYes) (by rfl) scPath.nd (pi_list (pv 1)) (blkOk_by (own := [("word", 2)]) (N := ["thing", "words", "word"]) (sc := defScope sPath) (by decide +kernel)) (fun _ _ _ _ _ => pg_name (i := 2) scPath.nd rfl (Or.inl rfl)) (fun _ _ _ _ _ => pts_nil)
          (fun _ _ _ _ _ => pe_or (pe_cmpR (opInK (K := K) rfl) (pv 2) (pe_tup (pa_cons pe_str (pa_cons pe_str pa_nil))) (by rfl)) (pe_one (pe_cl N hr (by omega) (by rfl) pass0 (pa_cons (pv 2) pa_nil))))) pa_nil)))))), ?_⟩
    cases hw with
    | other ty hn => exact ⟨_, rfl, _, .ty "str", _, _, false, rfl, .ty _, ty, kit_ty hn, _, rfl, iteT (iteT (q H (Same.refl H)))⟩
    | str z hz =>
      refine ⟨_, rfl, _, .ty "str", _, _, true, rfl, .ty _, .base (.str z), kit_ty (by decide +kernel), _, rfl, iteF ?_⟩
      refine ⟨_, rfl, rfl, _, rfl, ?_⟩
      by_cases e0 : z = ""
      · have eb : pathB z = false := by
          unfold pathB
          rw [if_pos e0]
        rw [eb] at q
        subst e0
        exact iteT (q H (Same.refl H))
      · rw [decide_eq_false (show ¬ V.str z = V.str "" from fun h => e0 (V.str.inj h))]
        refine iteF ⟨_, rfl, rfl, _, rfl, ?_⟩
        by_cases e1 : z = "/"
        · have eb : pathB z = true := by
            unfold pathB
            rw [if_neg e0, if_pos e1]
          rw [eb] at q
          subst e1
          exact iteT (q H (Same.refl H))
        · have eb : pathB z = ((wordsOf z).map wordB).all id := by
            unfold pathB
            rw [if_neg e0, if_neg e1]
          rw [decide_eq_false (show ¬ V.str z = V.str "/" from fun h => e1 (V.str.inj h))]
          refine iteF ⟨_, rfl, rfl, z, _, rfl, rfl, Evl.sz_of hz, ⟨_, rfl⟩, _, _, rfl, rfl, rfl, Nat.le_trans (show _ ≤ 100002 from Nat.add_le_add_right (Nat.le_trans (prefix_le z) hz) 2) (by decide), fun p hp => ?_⟩
          have hall : ∀ v ∈ wordsOf z, v.length ≤ 100000 := fun v hv => Nat.le_trans (part_short hv) (Nat.le_trans (prefix_le z) hz)
          have hlen : (wordsOf z).length < 200000 := Nat.lt_of_le_of_lt (split_le _ _) (Nat.lt_of_le_of_lt (Nat.add_le_add_right (Nat.le_trans (prefix_le z) hz) 2) (by decide))
          refine ⟨_, rfl, p, rfl, ⟨_, SqL.of upd_same⟩, fun D hD => lc_list (K := K) (a := p) (xs := (wordsOf z).map V.str) (fun i H' => H' D = some (.lst ((((wordsOf z).map wordB).take i).map V.bl)) ∧ H' p = some (.lst ((wordsOf z).map V.str)) ∧ Same H H') ⟨upd_same, by rw [upd_ne (ne_of_none upd_same hD)]; exact upd_same, (same_new hp).trans (same_new hD)⟩ (fun i H' _ h => SqL.of h.2.1) ?_ ?_⟩
          · rintro i x H1 hx ⟨h3, h4, sm⟩
            rw [List.getElem?_map] at hx
            cases ew : (wordsOf z)[i]? with
            | none =>
              rw [ew] at hx
              cases hx
            | some wd =>
              rw [ew] at hx
              cases hx
              have hi := (List.getElem?_eq_some_iff.mp ew).1
              have hD0 : H D = none := (same_new hp).free hD
              have np : p ≠ D := ne_of_none (show upd H p _ p = some _ from upd_same) hD
              have fin : ∀ H2, Same H1 H2 → (∃ acc, H2 D = some (.lst acc) ∧ acc.length < sizeLine ∧ upd H2 D (.lst (acc ++ [V.bl (wordB wd)])) D = some (.lst ((((wordsOf z).map wordB).take (i + 1)).map V.bl)) ∧ upd H2 D (.lst (acc ++ [V.bl (wordB wd)])) p = some (.lst ((wordsOf z).map V.str)) ∧ Same H (upd H2 D (.lst (acc ++ [V.bl (wordB wd)])))) := fun H2 s2 => by
                have eg : ((wordsOf z).map wordB)[i]? = some (wordB wd) := by
                  rw [List.getElem?_map, ew]
                  rfl
                refine ⟨_, s2 _ _ h3, Nat.lt_of_lt_of_le (show _ < 200000 from ?_) (by decide), ?_, ?_, same_mut hD0 (sm.trans s2)⟩
                · rw [List.length_map, List.length_take, List.length_map]
                  omega
                · rw [upd_same, take_snoc eg, List.map_append]
                  rfl
                · rw [upd_ne np]
                  exact s2 _ _ h4
              refine ⟨rfl, _, rfl, (by show 2 ≤ sizeLine; decide), fun t ht => ?_⟩
              refine ⟨t, dots, rfl, .inr (SqT.of upd_same), rfl, rfl, _, rfl, ite2 (fun c => ?_) (fun c => ?_)⟩
              · have ew1 : wordB wd = true := by
                  unfold wordB
                  rw [show inV (.str wd) dots = true from c, Bool.true_or]
                have := fin _ (same_new (o := HO.tup dots) ht)
                rw [ew1] at this
                exact this
              · have c' : inV (.str wd) dots = false := by simpa using c
                have ew1 : wordB wd = nameB wd := by
                  unfold wordB
                  rw [c', Bool.false_or]
                refine ⟨_, rfl, _, _, rfl, .str wd (hall wd (List.mem_of_getElem? ew)), fun H2 s2 => ?_⟩
                have := fin _ ((same_new (o := HO.tup dots) ht).trans s2)
                rw [ew1] at this
                exact this
          · rintro H1 ⟨h3, h4, sm⟩
            have e : ((wordsOf z).map wordB).take ((wordsOf z).map V.str).length = (wordsOf z).map wordB := List.take_of_length_le (by rw [List.length_map, List.length_map]; exact Nat.le_refl _)
            rw [e] at h3
            refine ⟨D, _, rfl, SqL.of h3, ?_⟩
            rw [← eb]
            exact q H1 sm
end
end Tx
set_option Elab.async false
set_option linter.all false
set_option maxRecDepth 100000
set_option maxHeartbeats 4000000
/-! own objects: fields set one by one -/
namespace Ob
open PySem PySem.Spec PyProof.Rows L2 Cm
/-- statements by what holds ahead and behind -/
def HoS (X : Cx) (sts : List Stmt) (p q : L2.St → Hp → Prop) : Prop := ∃ t, PSs X sts t ∧ ∀ (D : Ends) σ H, p σ H → (∀ σ' H', q σ' H' → D.nx σ' H') → t D σ H
theorem HoS.nil {X : Cx} {p : L2.St → Hp → Prop} : HoS X [] p p := ⟨_, pss_nil, fun D σ H h q => q _ _ h⟩
theorem HoS.cons {X : Cx} {st : Stmt} {rest : List Stmt} {p q r : L2.St → Hp → Prop} (a : Ho X st p q) (b : HoS X rest q r) : HoS X (st :: rest) p r := by
  obtain ⟨t, ht, h1⟩ := a
  obtain ⟨u, hu, h2⟩ := b
  exact ⟨_, pss_cons ht hu, fun D σ H hp hr => h1 _ σ H hp fun σ' H' hq => h2 D σ' H' hq hr⟩
theorem HoS.conseq {X : Cx} {sts : List Stmt} {p p' q q' : L2.St → Hp → Prop} (h : HoS X sts p q) (i : ∀ σ H, p' σ H → p σ H) (j : ∀ σ H, q σ H → q' σ H) : HoS X sts p' q' := by
  obtain ⟨t, a, b⟩ := h
  exact ⟨t, a, fun D σ H z k => b D σ H (i _ _ z) fun σ' H' y => k _ _ (j _ _ y)⟩
/-- the object x, its fields so far; all else as at the start -/
def Fd (σ0 : L2.St) (H0 : Hp) (x C dx : Addr) (fs : List (Str × V)) (n : Nat) : L2.St → Hp → Prop := fun σ H => σ = σ0 ∧ But x H0 H ∧ H x = some (.ins C dx fs) ∧ fs.length ≤ n
theorem putF_len (f : Str) (v : V) : ∀ fs : List (Str × V), (putF f v fs).length ≤ fs.length + 1
  | [] => Nat.le_refl _
  | (g, x) :: r => by
    unfold putF
    split
    · simp
    · have := putF_len f v r
      simp only [List.length_cons]
      omega
section
variable {X : Cx} {σ0 : L2.St} {H0 : Hp} {x C dx : Addr} {fs : List (Str × V)} {f y : Str} {i : Nat} {e : Expr} {te : TE} {v : V} {p p' pos : Pos}
/-- self.f = e, e a value that is there -/
theorem ho_fld (hs : PE X (.Name y p) (tVar i)) (hi : σ0[i]? = some (some (.ref x))) (he : PE X e te) (hv : ∀ H (Q : VK), Q v H → te σ0 H Q) (cl : Cls X.K C) (no : NoAttr X.K C f) {n : Nat} (hl : n ≤ 100)
    (sw : swapsWith e (some (.Attribute (.Name y p) f p')) pos.line X.env = pure false) : Ho X (.Assign [.Attribute (.Name y p) f p'] e pos) (Fd σ0 H0 x C dx fs n) (Fd σ0 H0 x C dx (putF f v fs) (n + 1)) := by
  refine ⟨_, ps_fld hs he sw, ?_⟩
  rintro D σ H ⟨rfl, b, hx, hn⟩ q
  refine hv H _ ⟨_, hi, x, C, dx, fs, rfl, hx, cl, no, ?_, q _ _ ⟨rfl, b.trans But.upd, upd_same, Nat.le_trans (putF_len f v fs) (by omega)⟩⟩
  omega
end
end Ob
namespace Tx
open PySem PySem.Spec PyProof.Rows L2 Cm Ob
/-! ### Mount.__init__ -/
abbrev sMtI : Stmt := inClass sMountC 0
theorem scMtI : FnScope ["self", "number", "space", "tree", "root"] ["self", "number", "space", "tree", "root"] (defScope sMtI) := ⟨rfl, rfl, rfl, by decide +kernel, rfl, by decide +kernel, by decide +kernel⟩
/-- a class without those names -/
structure Cn (K : PySem.W.Frag) (C : Addr) (fs : List Str) : Prop where
  cl : Cls K C
  no : ∀ f ∈ fs, NoAttr K C f
def mtN : List Str := ["number", "space", "tree", "root", "parent", "place", "group", "follows", "marked", "locked", "stem"]
def mtF (n sp tr rt pa pl gr fo ma lo st : V) : List (Str × V) := [("number", n), ("space", sp), ("tree", tr), ("root", rt), ("parent", pa), ("place", pl), ("group", gr), ("follows", fo), ("marked", ma), ("locked", lo), ("stem", st)]
def spMtI (CM : Addr) : Sp := fun vs H Q _ => ∃ x dx n sp tr rt, vs = [.ref x, n, sp, tr, rt] ∧ H x = some (.ins CM dx []) ∧ ∀ H', But x H H' → H' x = some (.ins CM dx (mtF n sp tr rt .non .non .non .non (.bl false) (.bl false) .non)) → Q .non H'
section
variable {P : Program} {w : World} {K : PySem.W.Frag} {mg : Str → Option Value} {base : Heap}
theorem ok_mtI {f CM : Addr} {fd : FuncData} {k : Nat} (F : Fun K "__init__" "Mount.__init__" sMtI f fd) (c : Cn K CM mtN) : FnOk P w K mg base CX0 (k + 1) f fd ["self", "number", "space", "tree", "root"] (spMtI CM) := by
  refine F.ok scMtI (fun vs H Q E h => ?_) (fun cdv A outer s H vs Q E hr h => ?_)
  · obtain ⟨x, dx, n, sp, tr, rt, rfl, _⟩ := h
    rfl
  · obtain ⟨x, dx, n, sp, tr, rt, rfl, hx, q⟩ := h
    have N : ∀ f ∈ mtN, NoAttr K CM f := c.no
    obtain ⟨t, ht, hq⟩ : HoS (cxOf CX0 P w K mg base ["self", "number", "space", "tree", "root"] "Mount.__init__" (defScope sMtI) f cdv A outer s H E).nox (defBody sMtI) (Fd [some (.ref x), some n, some sp, some tr, some rt] H x CM dx [] 0) (Fd [some (.ref x), some n, some sp, some tr, some rt] H x CM dx (mtF n sp tr rt .non .non .non .non (.bl false) (.bl false) .non) 11) := by
      refine HoS.cons (ho_fld (i := 0) (v := n) (pv 0) rfl (pv 1) (fun H Q h => ⟨_, rfl, h⟩) c.cl (N _ (by decide +kernel)) (by decide) rfl) ?_
      refine HoS.cons (ho_fld (i := 0) (v := sp) (pv 0) rfl (pv 2) (fun H Q h => ⟨_, rfl, h⟩) c.cl (N _ (by decide +kernel)) (by decide) rfl) ?_
      refine HoS.cons (ho_fld (i := 0) (v := tr) (pv 0) rfl (pv 3) (fun H Q h => ⟨_, rfl, h⟩) c.cl (N _ (by decide +kernel)) (by decide) rfl) ?_
      refine HoS.cons (ho_fld (i := 0) (v := rt) (pv 0) rfl (pv 4) (fun H Q h => ⟨_, rfl, h⟩) c.cl (N _ (by decide +kernel)) (by decide) rfl) ?_
      refine HoS.cons (ho_fld (i := 0) (v := .non) (pv 0) rfl pe_non (fun H Q h => h) c.cl (N _ (by decide +kernel)) (by decide) rfl) ?_
      refine HoS.cons (ho_fld (i := 0) (v := .non) (pv 0) rfl pe_non (fun H Q h => h) c.cl (N _ (by decide +kernel)) (by decide) rfl) ?_
      refine HoS.cons (ho_fld (i := 0) (v := .non) (pv 0) rfl pe_non (fun H Q h => h) c.cl (N _ (by decide +kernel)) (by decide) rfl) ?_
      refine HoS.cons (ho_fld (i := 0) (v := .non) (pv 0) rfl pe_non (fun H Q h => h) c.cl (N _ (by decide +kernel)) (by decide) rfl) ?_
      refine HoS.cons (ho_fld (i := 0) (v := .bl false) (pv 0) rfl pe_bl (fun H Q h => h) c.cl (N _ (by decide +kernel)) (by decide) rfl) ?_
      refine HoS.cons (ho_fld (i := 0) (v := .bl false) (pv 0) rfl pe_bl (fun H Q h => h) c.cl (N _ (by decide +kernel)) (by decide) rfl) ?_
      refine HoS.cons (ho_fld (i := 0) (v := .non) (pv 0) rfl pe_non (fun H Q h => h) c.cl (N _ (by decide +kernel)) (by decide) rfl) ?_
      exact HoS.nil
    exact ⟨t, ht, hq _ _ _ ⟨rfl, But.refl _ _, hx, Nat.le_refl _⟩ fun σ' H' z => q H' z.2.1 z.2.2.1⟩
end
end Tx
set_option Elab.async false
set_option linter.all false
set_option maxRecDepth 100000
set_option maxHeartbeats 4000000
namespace Ob
open PySem PySem.Spec PyProof.Rows L2 Cm
/-- the object x, with k new empty dicts among its fields -/
def Fe (σ0 : L2.St) (H0 : Hp) (x C dx : Addr) (n k : Nat) (P : List Addr → List (Str × V)) : L2.St → Hp → Prop := fun σ H => ∃ ds : List Addr, ds.length = k ∧ σ = σ0 ∧ But x H0 H ∧ H x = some (.ins C dx (P ds)) ∧ (P ds).length ≤ n ∧ (∀ d ∈ ds, H0 d = none ∧ d ≠ x ∧ H d = some (.dK [])) ∧ ds.Nodup
theorem But.none {x : Addr} {H0 H : Hp} {d : Addr} {o : HO} (b : But x H0 H) (hx : H x = some o) (hd : H d = none) : H0 d = none ∧ d ≠ x := by
  have ne : d ≠ x := fun z => by
    rw [z, hx] at hd
    cases hd
  refine ⟨?_, ne⟩
  cases e : H0 d with
  | none => rfl
  | some u =>
    rw [b d u ne e] at hd
    cases hd
section
variable {X : Cx} {σ0 : L2.St} {H0 : Hp} {x C dx : Addr} {f y : Str} {i n k : Nat} {p p' pos p2 : Pos} {P P' : List Addr → List (Str × V)}
/-- self.f = {} -/
theorem ho_dnew (hs : PE X (.Name y p) (tVar i)) (hi : σ0[i]? = some (some (.ref x))) (cl : Cls X.K C) (no : NoAttr X.K C f) (hl : n ≤ 100) (hP : ∀ ds d, ds.length = k → P' (ds ++ [d]) = putF f (.ref d) (P ds))
    (sw : swapsWith (.Dict [] [] p2) (some (.Attribute (.Name y p) f p')) pos.line X.env = pure false) : Ho X (.Assign [.Attribute (.Name y p) f p'] (.Dict [] [] p2) pos) (Fe σ0 H0 x C dx n k P) (Fe σ0 H0 x C dx (n + 1) (k + 1) P') := by
  refine ⟨_, ps_fld hs pe_dnewK sw, ?_⟩
  rintro D σ H ⟨ds, hk, rfl, b, hx, hn, hd, nd⟩ q d hd0
  have hz := But.none b hx hd0
  refine ⟨_, hi, x, C, dx, P ds, rfl, (by rw [upd_ne (ne_of_none hx hd0)]; exact hx), cl, no, by omega, q _ _ ⟨ds ++ [d], by rw [List.length_append, hk]; rfl, rfl, (b.trans (But.new hd0)).trans But.upd, ?_, ?_, fun a ha => ?_, ?_⟩⟩
  · rw [hP ds d hk]
    exact upd_same
  · rw [hP ds d hk]
    exact Nat.le_trans (putF_len _ _ _) (by omega)
  · rcases List.mem_append.mp ha with ha | ha
    · obtain ⟨h1, h2, h3⟩ := hd a ha
      exact ⟨h1, h2, by rw [upd_ne h2, upd_ne (ne_of_none h3 hd0)]; exact h3⟩
    · have e : a = d := by simpa using ha
      subst e
      exact ⟨hz.1, hz.2, by rw [upd_ne hz.2]; exact upd_same⟩
  · rw [List.nodup_append]
    refine ⟨nd, by simp, fun a ha c hc => ?_⟩
    have e : c = d := by simpa using hc
    subst e
    intro z
    have h3 := (hd a ha).2.2
    rw [z, hd0] at h3
    cases h3
end
end Ob
namespace Tx
open PySem PySem.Spec PyProof.Rows L2 Cm Ob
abbrev sTbI : Stmt := inClass sTableC 0
theorem scTbI : FnScope ["self", "trees", "most"] ["self", "trees", "most"] (defScope sTbI) := ⟨rfl, rfl, rfl, by decide +kernel, rfl, by decide +kernel, by decide +kernel⟩
def tbN : List Str := ["trees", "most", "known", "placed", "tops", "owners", "masters", "members", "behind", "counts"]
def tbF (tr mo kn_ pl_ to_ ow_ ma_ me_ be_ ct : V) : List (Str × V) := [("trees", tr), ("most", mo), ("known", kn_), ("placed", pl_), ("tops", to_), ("owners", ow_), ("masters", ma_), ("members", me_), ("behind", be_), ("counts", ct)]
def pT0 (tr mo : V) (ds : List Addr) : List (Str × V) := match ds with | [] => [("trees", tr), ("most", mo)] | _ => []
def pT1 (tr mo : V) (ds : List Addr) : List (Str × V) := match ds with | [d0] => [("trees", tr), ("most", mo), ("known", .ref d0)] | _ => []
def pT2 (tr mo : V) (ds : List Addr) : List (Str × V) := match ds with | [d0, d1] => [("trees", tr), ("most", mo), ("known", .ref d0), ("placed", .ref d1)] | _ => []
def pT3 (tr mo : V) (ds : List Addr) : List (Str × V) := match ds with | [d0, d1, d2] => [("trees", tr), ("most", mo), ("known", .ref d0), ("placed", .ref d1), ("tops", .ref d2)] | _ => []
def pT4 (tr mo : V) (ds : List Addr) : List (Str × V) := match ds with | [d0, d1, d2, d3] => [("trees", tr), ("most", mo), ("known", .ref d0), ("placed", .ref d1), ("tops", .ref d2), ("owners", .ref d3)] | _ => []
def pT5 (tr mo : V) (ds : List Addr) : List (Str × V) := match ds with | [d0, d1, d2, d3, d4] => [("trees", tr), ("most", mo), ("known", .ref d0), ("placed", .ref d1), ("tops", .ref d2), ("owners", .ref d3), ("masters", .ref d4)] | _ => []
def pT6 (tr mo : V) (ds : List Addr) : List (Str × V) := match ds with | [d0, d1, d2, d3, d4, d5] => [("trees", tr), ("most", mo), ("known", .ref d0), ("placed", .ref d1), ("tops", .ref d2), ("owners", .ref d3), ("masters", .ref d4), ("members", .ref d5)] | _ => []
def pT7 (tr mo : V) (ds : List Addr) : List (Str × V) := match ds with | [d0, d1, d2, d3, d4, d5, d6] => [("trees", tr), ("most", mo), ("known", .ref d0), ("placed", .ref d1), ("tops", .ref d2), ("owners", .ref d3), ("masters", .ref d4), ("members", .ref d5), ("behind", .ref d6)] | _ => []
theorem pT0_put {tr mo : V} (ds : List Addr) (d : Addr) (h : ds.length = 0) : pT1 tr mo (ds ++ [d]) = putF "known" (.ref d) (pT0 tr mo ds) := match ds, h with | [], _ => rfl
theorem pT1_put {tr mo : V} (ds : List Addr) (d : Addr) (h : ds.length = 1) : pT2 tr mo (ds ++ [d]) = putF "placed" (.ref d) (pT1 tr mo ds) := match ds, h with | [_], _ => rfl
theorem pT2_put {tr mo : V} (ds : List Addr) (d : Addr) (h : ds.length = 2) : pT3 tr mo (ds ++ [d]) = putF "tops" (.ref d) (pT2 tr mo ds) := match ds, h with | [_, _], _ => rfl
theorem pT3_put {tr mo : V} (ds : List Addr) (d : Addr) (h : ds.length = 3) : pT4 tr mo (ds ++ [d]) = putF "owners" (.ref d) (pT3 tr mo ds) := match ds, h with | [_, _, _], _ => rfl
theorem pT4_put {tr mo : V} (ds : List Addr) (d : Addr) (h : ds.length = 4) : pT5 tr mo (ds ++ [d]) = putF "masters" (.ref d) (pT4 tr mo ds) := match ds, h with | [_, _, _, _], _ => rfl
theorem pT5_put {tr mo : V} (ds : List Addr) (d : Addr) (h : ds.length = 5) : pT6 tr mo (ds ++ [d]) = putF "members" (.ref d) (pT5 tr mo ds) := match ds, h with | [_, _, _, _, _], _ => rfl
theorem pT6_put {tr mo : V} (ds : List Addr) (d : Addr) (h : ds.length = 6) : pT7 tr mo (ds ++ [d]) = putF "behind" (.ref d) (pT6 tr mo ds) := match ds, h with | [_, _, _, _, _, _], _ => rfl
def cntK (a b c : Int) : List (Key × V) := [(Sum.inr "mount", .int a), (Sum.inr "group", .int b), (Sum.inr "stem", .int c)]
def spTbI (CT : Addr) : Sp := fun vs H Q _ => ∃ x dx tr mo, vs = [.ref x, tr, mo] ∧ H x = some (.ins CT dx []) ∧ ∀ H' ds ct, ds.length = 7 → But x H H' → H' x = some (.ins CT dx (pT7 tr mo ds ++ ([("counts", V.ref ct)] : List (Str × V)))) → (∀ d ∈ ds, H d = none ∧ d ≠ x ∧ H' d = some (.dK [])) → ds.Nodup → ct ∉ ds → H ct = none → ct ≠ x → H' ct = some (.dK (cntK 0 0 0)) → Q .non H'
section
variable {P : Program} {w : World} {K : PySem.W.Frag} {mg : Str → Option Value} {base : Heap}
theorem ok_tbI {f CT : Addr} {fd : FuncData} {k : Nat} (F : Fun K "__init__" "Table.__init__" sTbI f fd) (c : Cn K CT tbN) : FnOk P w K mg base CX0 (k + 1) f fd ["self", "trees", "most"] (spTbI CT) := by
  refine F.ok scTbI (fun vs H Q E h => ?_) (fun cdv A outer s H vs Q E hr h => ?_)
  · obtain ⟨x, dx, tr, mo, rfl, _⟩ := h
    rfl
  · obtain ⟨x, dx, tr, mo, rfl, hx, q⟩ := h
    have N : ∀ f ∈ tbN, NoAttr K CT f := c.no
    have last : Ho (cxOf CX0 P w K mg base ["self", "trees", "most"] "Table.__init__" (defScope sTbI) f cdv A outer s H E).nox ((defBody sTbI).getD 9 (.Pass ⟨0, 0, 0, 0⟩)) (Fe [some (.ref x), some tr, some mo] H x CT dx 9 7 (pT7 tr mo)) (fun _ H' => Q .non H') := by
      refine ⟨_, ps_fld (pv 0) (pe_disp (pps_cons pe_str pe_int (pps_cons pe_str pe_int (pps_cons pe_str pe_int pps_nil))) rfl rfl (by simp) (by decide)) rfl, ?_⟩
      rintro D σ H1 ⟨ds, hk, rfl, b, hx1, hn, hd, nd⟩ k ct hct
      refine ⟨upd_same, [(Sum.inr "mount", .int 0), (Sum.inr "group", .int 0), (Sum.inr "stem", .int 0)], rfl, by show 3 ≤ 15; decide, ?_⟩
      have hz := But.none b hx1 hct
      have b1 : But x H1 (upd (upd H1 ct (.dK [])) ct (.dK (cntK 0 0 0))) := fun a o n h => by
        rw [upd_ne (ne_of_none h hct), upd_ne (ne_of_none h hct)]
        exact h
      refine ⟨_, rfl, x, CT, dx, pT7 tr mo ds, rfl, ?_, c.cl, N _ (by decide +kernel), by omega, k _ _ ?_⟩
      · show upd (upd H1 ct (.dK [])) ct _ x = _
        rw [upd_ne (ne_of_none hx1 hct), upd_ne (ne_of_none hx1 hct)]
        exact hx1
      · refine q _ ds ct hk (b.trans (b1.trans But.upd)) ?_ (fun d hd' => ?_) nd (fun z => ?_) hz.1 hz.2 ?_
        · rw [upd_same]
          match ds, hk with
          | [_, _, _, _, _, _, _], _ => rfl
        · obtain ⟨h1, h2, h3⟩ := hd d hd'
          exact ⟨h1, h2, (b1.trans But.upd) d _ h2 h3⟩
        · have h3 := (hd ct z).2.2
          rw [hct] at h3
          cases h3
        · rw [upd_ne hz.2]
          exact upd_same
    obtain ⟨t, ht, hq⟩ : HoS (cxOf CX0 P w K mg base ["self", "trees", "most"] "Table.__init__" (defScope sTbI) f cdv A outer s H E).nox (defBody sTbI) (Fd [some (.ref x), some tr, some mo] H x CT dx [] 0) (fun _ H' => Q .non H') := by
      refine HoS.cons (ho_fld (i := 0) (v := tr) (pv 0) rfl (pv 1) (fun H Q h => ⟨_, rfl, h⟩) c.cl (N _ (by decide +kernel)) (by decide) rfl) ?_
      refine HoS.cons (ho_fld (i := 0) (v := mo) (pv 0) rfl (pv 2) (fun H Q h => ⟨_, rfl, h⟩) c.cl (N _ (by decide +kernel)) (by decide) rfl) ?_
      refine HoS.conseq (p := Fe [some (.ref x), some tr, some mo] H x CT dx 2 0 (pT0 tr mo)) (q := fun _ H' => Q .non H') ?_ (fun σ H1 z => ⟨[], rfl, z.1, z.2.1, z.2.2.1, z.2.2.2, by simp, by simp⟩) (fun _ _ z => z)
      refine HoS.cons (ho_dnew (i := 0) (k := 0) (pv 0) rfl c.cl (N _ (by decide +kernel)) (by decide) (pT0_put) rfl) ?_
      refine HoS.cons (ho_dnew (i := 0) (k := 1) (pv 0) rfl c.cl (N _ (by decide +kernel)) (by decide) (pT1_put) rfl) ?_
      refine HoS.cons (ho_dnew (i := 0) (k := 2) (pv 0) rfl c.cl (N _ (by decide +kernel)) (by decide) (pT2_put) rfl) ?_
      refine HoS.cons (ho_dnew (i := 0) (k := 3) (pv 0) rfl c.cl (N _ (by decide +kernel)) (by decide) (pT3_put) rfl) ?_
      refine HoS.cons (ho_dnew (i := 0) (k := 4) (pv 0) rfl c.cl (N _ (by decide +kernel)) (by decide) (pT4_put) rfl) ?_
      refine HoS.cons (ho_dnew (i := 0) (k := 5) (pv 0) rfl c.cl (N _ (by decide +kernel)) (by decide) (pT5_put) rfl) ?_
      refine HoS.cons (ho_dnew (i := 0) (k := 6) (pv 0) rfl c.cl (N _ (by decide +kernel)) (by decide) (pT6_put) rfl) ?_
      exact HoS.cons last HoS.nil
    exact ⟨t, ht, hq _ _ _ ⟨rfl, But.refl _ _, hx, Nat.le_refl _⟩ fun σ' H' z => z⟩
end
end Tx
set_option Elab.async false
set_option linter.all false
set_option maxRecDepth 100000
set_option maxHeartbeats 4000000
namespace Tx
open PySem PySem.Spec PyProof.Rows L2 Cm Ob
abbrev sNext : Stmt := inClass sTableC 2
abbrev sNewM : Stmt := inClass sTableC 6
theorem scNext : FnScope ["self", "what", "found"] ["self", "what"] (defScope sNext) := ⟨rfl, rfl, rfl, by decide +kernel, rfl, by decide +kernel, by decide +kernel⟩
theorem scNewM : FnScope ["self", "space", "tree", "root", "found"] ["self", "space", "tree", "root"] (defScope sNewM) := ⟨rfl, rfl, rfl, by decide +kernel, rfl, by decide +kernel, by decide +kernel⟩
def spNext (CT : Addr) : Sp := fun vs H Q _ => ∃ T dx fs c kvs z n, vs = [.ref T, .str z] ∧ H T = some (.ins CT dx fs) ∧ fs.lookup ("counts" : Str) = some (.ref c) ∧ H c = some (.dK kvs) ∧ valV kvs (Sum.inr z : Key) = some (.int n) ∧ kvs.length ≤ 100 ∧
  ∀ H', But c H H' → H' c = some (.dK (putK kvs (Sum.inr z : Key) (.int (n + 1)))) → Q (.int n) H'
section
variable {P : Program} {w : World} {K : PySem.W.Frag} {mg : Str → Option Value} {base : Heap}
theorem ok_next {f CT : Addr} {fd : FuncData} {k : Nat} (F : Fun K "next" "Table.next" sNext f fd) (c : Cn K CT tbN) : FnOk P w K mg base CX0 (k + 1) f fd ["self", "what"] (spNext CT) := by
  refine F.ok scNext (fun vs H Q E h => ?_) (fun cdv A outer s H vs Q E hr h => ?_)
  · obtain ⟨T, dx, fs, c, kvs, z, n, rfl, _⟩ := h
    rfl
  · obtain ⟨T, dx, fs, cc, kvs, z, n, rfl, hT, hl, hc, hv, hn, q⟩ := h
    have hu1 : (cxOf CX0 P w K mg base ["self", "what", "found"] "Table.next" (defScope sNext) f cdv A outer s H E).nox.A.units + 1 < cLine := by
      have := hr.units
      exact Nat.lt_of_le_of_lt (Nat.add_le_add_left (by decide) _) this
    have no := c.no "counts" (by decide +kernel)
    refine ⟨_, pss_cons (ps_set (i := 2) scNext.nd rfl (.inl rfl) (pe_dget hu1 (pe_fld (pv 0) rfl) (pv 1) (fun _ _ => rfl))) (pss_cons (ps_dput hu1 (pe_fld (pv 0) rfl) (pv 1) (pe_op op_add (pv 2) pe_int) rfl) (pss_one (ps_ret (pv 2)))), ?_⟩
    refine ⟨_, rfl, T, CT, dx, fs, .ref cc, rfl, hT, c.cl, no, hl, _, rfl, cc, .int n, rfl, ?_, ?_⟩
    · rw [← hv]
      exact DGet.k (k := (Sum.inr z : Key)) hc
    · exact ⟨_, rfl, n, 1, rfl, rfl, _, rfl, T, CT, dx, fs, .ref cc, rfl, hT, c.cl, no, hl, _, rfl, cc, _, rfl, DPut.k (k := (Sum.inr z : Key)) hc (small1000 (by omega)), _, rfl, q _ But.upd upd_same⟩
/-- all but three -/
def But3 (a b c : Addr) (H H' : Hp) : Prop := ∀ d o, d ≠ a → d ≠ b → d ≠ c → H d = some o → H' d = some o
def spNewM (CT CM : Addr) : Sp := fun vs H Q _ => ∃ T dx fs c kn pl kvs kk kp n sp tr rt, vs = [.ref T, sp, tr, rt] ∧ H T = some (.ins CT dx fs) ∧ fs.lookup ("counts" : Str) = some (.ref c) ∧ fs.lookup ("known" : Str) = some (.ref kn) ∧ fs.lookup ("placed" : Str) = some (.ref pl) ∧ fs.lookup ("next" : Str) = none ∧
  H c = some (.dK kvs) ∧ valV kvs (Sum.inr "mount" : Key) = some (.int n) ∧ kvs.length ≤ 100 ∧ H kn = some (.dK kk) ∧ kk.length ≤ 10000 ∧ H pl = some (.dK kp) ∧ kp.length ≤ 10000 ∧ c ≠ kn ∧ c ≠ pl ∧ kn ≠ pl ∧
  ∀ H' m dm e, But3 c kn pl H H' → H m = none → H e = none → H' m = some (.ins CM dm (mtF (.int n) sp tr rt .non .non .non .non (.bl false) (.bl false) .non)) → H' e = some (.dK []) → H' c = some (.dK (putK kvs (Sum.inr "mount" : Key) (.int (n + 1)))) →
    H' kn = some (.dK (putK kk (Sum.inl n : Key) (.ref m))) → H' pl = some (.dK (putK kp (Sum.inl n : Key) (.ref e))) → m ≠ e → Q (.ref m) H'
theorem ok_newM {f CT CM fN fI : Addr} {fd fdN fdI : FuncData} {k : Nat} (F : Fun K "new_mount" "Table.new_mount" sNewM f fd) (c : Cn K CT tbN) (cM : Cn K CM mtN) (mN : Meth K CT "next" fN) (FN : FnOk P w K mg base CX0 1 fN fdN ["self", "what"] (spNext CT)) (bN : Binds K fdN ["self", "what"] [])
    (MK : Mk K CM fI) (gM : mg "Mount" = some (.ref CM)) (FI : FnOk P w K mg base CX0 1 fI fdI ["self", "number", "space", "tree", "root"] (spMtI CM)) (bI : Binds K fdI ["self", "number", "space", "tree", "root"] []) :
    FnOk P w K mg base CX0 (k + 3) f fd ["self", "space", "tree", "root"] (spNewM CT CM) := by
  refine F.ok scNewM (fun vs H Q E h => ?_) (fun cdv A outer s H vs Q E hr h => ?_)
  · obtain ⟨T, dx, fs, cc, kn, pl, kvs, kk, kp, n, sp, tr, rt, rfl, _⟩ := h
    rfl
  · obtain ⟨T, dx, fs, cc, kn, pl, kvs, kk, kp, n, sp, tr, rt, rfl, hT, lc, lk, lp, ln, hc, hv, hn, hk, hkl, hp, hpl, n1, n2, n3, q⟩ := h
    have hu1 : (cxOf CX0 P w K mg base ["self", "space", "tree", "root", "found"] "Table.new_mount" (defScope sNewM) f cdv A outer s H E).nox.A.units + 1 < cLine := by
      have := hr.units
      exact Nat.lt_of_le_of_lt (Nat.add_le_add_left (by decide) _) this
    have hr1 : Room 1 (cxOf CX0 P w K mg base ["self", "space", "tree", "root", "found"] "Table.new_mount" (defScope sNewM) f cdv A outer s H E).nox.A := hr.mono (by omega)
    have hr2 : Room 2 (cxOf CX0 P w K mg base ["self", "space", "tree", "root", "found"] "Table.new_mount" (defScope sNewM) f cdv A outer s H E).nox.A := hr.mono (by omega)
    refine ⟨_, pss_cons (ps_set (i := 4) scNewM.nd rfl (.inl rfl) (pe_make MK FI hr2 (by rfl) gM bI .nil pass0 (pa_cons (pe_meth (pv 0) c.cl mN FN hr1 bN .nil pass0 (pa_cons pe_str pa_nil)) (pa_cons (pv 1) (pa_cons (pv 2) (pa_cons (pv 3) pa_nil))))))
      (pss_cons (ps_dput hu1 (pe_fld (pv 0) rfl) (pe_fld (pv 4) rfl) (pv 4) rfl) (pss_cons (ps_dput hu1 (pe_fld (pv 0) rfl) (pe_fld (pv 4) rfl) pe_dnewK rfl) (pss_one (ps_ret (pv 4))))), ?_⟩
    refine ⟨_, rfl, T, dx, fs, rfl, hT, ln, T, dx, fs, cc, kvs, "mount", n, rfl, hT, lc, hc, hv, hn, fun H1 b1 hc1 => ?_⟩
    refine ⟨_, rfl, _, rfl, _, rfl, fun m dm hm hdm ne => ?_⟩
    refine ⟨m, dm, .int n, sp, tr, rt, rfl, upd_same, fun H2 b2 hm2 => ⟨rfl, ?_⟩⟩
    -- H1: counts moved on; H2: the mount made
    have hne : ∀ {b o}, H1 b = some o → b ≠ m ∧ b ≠ dm := fun {b o} h => ⟨ne_of_none h hm, ne_of_none h hdm⟩
    have up2 : ∀ b o, H1 b = some o → H2 b = some o := fun b o h => by
      refine b2 b o (hne h).1 ?_
      rw [upd_ne (hne h).1, upd_ne (hne h).2]
      exact h
    have nTc : T ≠ cc := ne_of hT hc (by intro z; cases z)
    have hT1 := b1 T _ nTc hT
    have hk1 := b1 kn _ (Ne.symm n1) hk
    have hp1 := b1 pl _ (Ne.symm n2) hp
    have hm0 : H m = none := by
      cases e : H m with
      | none => rfl
      | some o =>
        by_cases z : m = cc
        · rw [z, hc1] at hm
          cases hm
        · rw [b1 m o z e] at hm
          cases hm
    have nmk : m ≠ kn := Ne.symm (hne hk1).1
    have nmp : m ≠ pl := Ne.symm (hne hp1).1
    have nmc : m ≠ cc := Ne.symm (hne hc1).1
    have nTk : T ≠ kn := ne_of hT hk (by intro z; cases z)
    have nTp : T ≠ pl := ne_of hT hp (by intro z; cases z)
    have lm : (mtF (.int n) sp tr rt .non .non .non .non (.bl false) (.bl false) .non).lookup ("number" : Str) = some (.int n) := rfl
    refine ⟨_, rfl, _, rfl, T, CT, dx, fs, .ref kn, rfl, up2 _ _ hT1, c.cl, c.no _ (by decide +kernel), lk, _, rfl, m, CM, dm, _, .int n, rfl, hm2, cM.cl, cM.no _ (by decide +kernel), lm, kn, _, rfl, DPut.k (k := (Sum.inl n : Key)) (up2 _ _ hk1) (Nat.lt_of_le_of_lt hkl (by decide)), ?_⟩
    intro e he
    have hT3 : upd H2 kn (.dK (putK kk (Sum.inl n : Key) (.ref m))) T = some (.ins CT dx fs) := by
      rw [upd_ne nTk]
      exact up2 _ _ hT1
    have hm3 : upd H2 kn (.dK (putK kk (Sum.inl n : Key) (.ref m))) m = some (.ins CM dm (mtF (.int n) sp tr rt .non .non .non .non (.bl false) (.bl false) .non)) := by
      rw [upd_ne nmk]
      exact hm2
    have hp3 : upd H2 kn (.dK (putK kk (Sum.inl n : Key) (.ref m))) pl = some (.dK kp) := by
      rw [upd_ne (Ne.symm n3)]
      exact up2 _ _ hp1
    have hc3 : upd H2 kn (.dK (putK kk (Sum.inl n : Key) (.ref m))) cc = some (.dK (putK kvs (Sum.inr "mount" : Key) (.int (n + 1)))) := by
      rw [upd_ne n1]
      exact up2 _ _ hc1
    have nek : ∀ {b o}, upd H2 kn (.dK (putK kk (Sum.inl n : Key) (.ref m))) b = some o → b ≠ e := fun h => ne_of_none h he
    have he0 : H e = none := by
      cases z : H e with
      | none => rfl
      | some o =>
        by_cases z1 : e = cc
        · rw [z1, hc3] at he
          cases he
        by_cases z2 : e = kn
        · rw [z2, upd_same] at he
          cases he
        · rw [upd_ne z2, up2 _ _ (b1 e o z1 z)] at he
          cases he
    refine ⟨_, rfl, T, CT, dx, fs, .ref pl, rfl, (by rw [upd_ne (nek hT3)]; exact hT3), c.cl, c.no _ (by decide +kernel), lp, _, rfl, m, CM, dm, _, .int n, rfl, (by rw [upd_ne (nek hm3)]; exact hm3), cM.cl, cM.no _ (by decide +kernel), lm, pl, _, rfl, DPut.k (k := (Sum.inl n : Key)) (kvs := kp) (by rw [upd_ne (nek hp3)]; exact hp3) (Nat.lt_of_le_of_lt hpl (by decide)), _, rfl, ?_⟩
    have nep : e ≠ pl := Ne.symm (nek hp3)
    refine q _ m dm e (fun d o d1 d2 d3 h => ?_) hm0 he0 ?_ ?_ ?_ ?_ ?_ (nek hm3)
    · have h3 : upd H2 kn (.dK (putK kk (Sum.inl n : Key) (.ref m))) d = some o := by
        rw [upd_ne d2]
        exact up2 _ _ (b1 d o d1 h)
      rw [upd_ne d3, upd_ne (nek h3)]
      exact h3
    · rw [upd_ne nmp, upd_ne (nek hm3)]
      exact hm3
    · rw [upd_ne nep]
      exact upd_same
    · rw [upd_ne n2, upd_ne (nek hc3)]
      exact hc3
    · rw [upd_ne n3, upd_ne (nek (b := kn) upd_same)]
      exact upd_same
    · exact upd_same
end
end Tx
set_option Elab.async false
set_option linter.all false
set_option maxRecDepth 100000
set_option maxHeartbeats 4000000
namespace Tx
open PySem PySem.Spec PyProof.Rows L2 Cm
/-! ### nodes as data -/
inductive Nd where
  | fil (i : Int)
  | lnk (z : Str)
  | dir (ks : List (Str × Nd))
/-- v stands for t in the dicts of H -/
inductive NdAt (H : Hp) : V → Nd → Prop
  | fil (i : Int) : NdAt H (.int i) (.fil i)
  | lnk (z : Str) (hz : z.length ≤ 100000) : NdAt H (.str z) (.lnk z)
  | dir {a : Addr} {kvs : List (Key × V)} {ks : List (Str × Nd)} (h : H a = some (.dK kvs)) (hk : kvs.map (·.1) = ks.map fun p => (Sum.inr p.1 : Key)) (hn : (ks.map (·.1)).Nodup) (hl : ks.length < 64) (hz : ∀ p ∈ ks, p.1.length ≤ 100000)
      (hv : ∀ (i : Nat) (kv : Key × V) (p : Str × Nd), kvs[i]? = some kv → ks[i]? = some p → NdAt H kv.2 p.2) : NdAt H (.ref a) (.dir ks)
/-- the dicts stay -/
def DKeep (H H' : Hp) : Prop := ∀ b kvs, H b = some (.dK kvs) → H' b = some (.dK kvs)
theorem NdAt.mono {H H' : Hp} {v : V} {t : Nd} (h : NdAt H v t) (k : DKeep H H') : NdAt H' v t := by
  induction h with
  | fil i => exact .fil i
  | lnk z hz => exact .lnk z hz
  | dir h hk hn hl hz _ ih => exact .dir (k _ _ h) hk hn hl hz ih
theorem DKeep.same {H H' : Hp} (s : Same H H') : DKeep H H' := fun b _ h => s b _ h
theorem DKeep.but {H H' : Hp} {m : Addr} {o : HO} (b : But m H H') (hm : H m = some o) (ho : ∀ kvs, o ≠ .dK kvs) : DKeep H H' := fun c kvs h => b c _ (fun z => by
  rw [z, hm] at h
  exact ho kvs (Option.some.inj h)) h
theorem DKeep.trans {H H1 H2 : Hp} (a : DKeep H H1) (b : DKeep H1 H2) : DKeep H H2 := fun c kvs h => b c kvs (a c kvs h)
/-- what has come since H -/
def newIn (H H' : Hp) : Hp := fun b => match H b with | none => H' b | some _ => none
theorem newIn_of {H H' : Hp} {b : Addr} (h : H b = none) : newIn H H' b = H' b := by
  unfold newIn
  rw [h]
theorem newIn_some {H H' : Hp} {b : Addr} {o : HO} (h : newIn H H' b = some o) : H b = none ∧ H' b = some o := by
  unfold newIn at h
  cases e : H b with
  | none =>
    rw [e] at h
    exact ⟨rfl, h⟩
  | some u =>
    rw [e] at h
    cases h
theorem newIn_keep (H H' : Hp) : DKeep (newIn H H') H' := fun _ _ h => (newIn_some h).2
/-- what came in a part has come in the whole -/
theorem newIn_part {H H1 H2 H3 : Hp} (a : ∀ b o, H b = some o → ∃ u, H1 b = some u) (k : ∀ b kvs, H1 b = none → H2 b = some (.dK kvs) → H3 b = some (.dK kvs)) : DKeep (newIn H1 H2) (newIn H H3) := fun b kvs h => by
  obtain ⟨h1, h2⟩ := newIn_some h
  have h0 : H b = none := by
    cases e : H b with
    | none => rfl
    | some o =>
      obtain ⟨u, z⟩ := a b o e
      rw [z] at h1
      cases h1
  rw [newIn_of h0]
  exact k b kvs h1 h2
/-! ### names in order -/
def leS (a b : Str) : Bool := decide (a.cps.toList ≤ b.cps.toList)
def sortK (ks : List (Str × Nd)) : List (Str × Nd) := ks.mergeSort fun a b => leS a.1 b.1
theorem leS_trans (a b c : Str) (h1 : leS a b = true) (h2 : leS b c = true) : leS a c = true := by
  unfold leS at *
  simp only [decide_eq_true_eq] at *
  exact List.le_trans h1 h2
theorem leS_total (a b : Str) : (leS a b || leS b a) = true := by
  unfold leS
  simp only [Bool.or_eq_true, decide_eq_true_eq]
  exact List.le_total _ _
theorem leS_anti (a b : Str) (h1 : leS a b = true) (h2 : leS b a = true) : a = b := by
  unfold leS at *
  simp only [decide_eq_true_eq] at *
  exact TL.ext_tl (List.le_antisymm h1 h2)
theorem rising_le : ∀ (r : List Str) (x : Str), risingS x r = true → (x :: r).Pairwise fun a b => leS a b = true
  | [], x, _ => List.pairwise_singleton _ _
  | y :: r, x, h => by
    unfold risingS at h
    rw [Bool.and_eq_true, ltCps_eq] at h
    have h1 : leS x y = true := by
      unfold leS
      have z : ¬ y.cps.toList < x.cps.toList := by simpa using h.1
      rw [decide_eq_true_eq]
      exact z
    have ih := rising_le r y h.2
    refine List.pairwise_cons.mpr ⟨fun b hb => ?_, ih⟩
    rcases List.mem_cons.mp hb with e | e
    · rw [e]
      exact h1
    · exact leS_trans x y b h1 (List.rel_of_pairwise_cons ih e)
theorem sortK_names {ks : List (Str × Nd)} {ys : List Str} (hp : ys.Perm (ks.map (·.1))) (hs : sortedS ys = true) : ys = (sortK ks).map (·.1) := by
  have p1 : ys.Pairwise fun a b => leS a b = true := by
    cases ys with
    | nil => exact List.Pairwise.nil
    | cons x r => exact rising_le r x hs
  have p2 : ((sortK ks).map (·.1)).Pairwise fun a b => leS a b = true := by
    rw [List.pairwise_map]
    exact List.pairwise_mergeSort (le := fun a b : Str × Nd => leS a.1 b.1) (fun a b c => leS_trans _ _ _) (fun a b => leS_total _ _) ks
  refine List.Perm.eq_of_pairwise (fun a b _ _ h1 h2 => leS_anti a b h1 h2) p1 p2 (hp.trans ?_)
  exact ((List.mergeSort_perm ks _).map _).symm
theorem sortK_mem {ks : List (Str × Nd)} {p : Str × Nd} : p ∈ sortK ks ↔ p ∈ ks := (List.mergeSort_perm ks _).mem_iff
theorem sortK_len (ks : List (Str × Nd)) : (sortK ks).length = ks.length := (List.mergeSort_perm ks _).length_eq
theorem sortK_nodup {ks : List (Str × Nd)} (h : (ks.map (·.1)).Nodup) : ((sortK ks).map (·.1)).Nodup := ((List.mergeSort_perm ks _).map _).nodup_iff.mpr h
/-! ### what node_value makes of a datum: with g levels left, n nodes met -/
def nvs (f : Nd → Nat → Option (Nd × Nat)) : List (Str × Nd) → Nat → Option (List (Str × Nd) × Nat)
  | [], n => some ([], n)
  | p :: r, n => match f p.2 n with
    | none => none
    | some (t, m) => match nvs f r m with
      | none => none
      | some (r', m') => some ((p.1, t) :: r', m')
def wholeB (i : Int) : Bool := decide (1 - 10 ^ 60 ≤ i) && decide (i ≤ 10 ^ 60 - 1)
def nv : Nat → Nd → Nat → Option (Nd × Nat)
  | 0, _, _ => none
  | g + 1, t, n => if 61 < n + 1 then none else match t with
    | .fil i => if wholeB i then some (.fil i, n + 1) else none
    | .lnk z => if pathB z then some (.lnk z, n + 1) else none
    | .dir ks => if ks.all fun p => nameB p.1 then (match nvs (nv g) (sortK ks) (n + 1) with
      | some (ks', m) => some (.dir ks', m)
      | none => none) else none
theorem nvs_cons (f : Nd → Nat → Option (Nd × Nat)) (p : Str × Nd) (r : List (Str × Nd)) (n : Nat) : nvs f (p :: r) n = match f p.2 n with
    | none => none
    | some (t, m) => match nvs f r m with
      | none => none
      | some (r', m') => some ((p.1, t) :: r', m') := rfl
theorem nvs_append (f : Nd → Nat → Option (Nd × Nat)) : ∀ (a b : List (Str × Nd)) (n : Nat), nvs f (a ++ b) n = match nvs f a n with
    | none => none
    | some (r, m) => match nvs f b m with
      | none => none
      | some (r', m') => some (r ++ r', m')
  | [], b, n => by
    show nvs f b n = match nvs f b n with | none => none | some (r', m') => some ([] ++ r', m')
    cases nvs f b n with
    | none => rfl
    | some p => rfl
  | p :: a, b, n => by
    rw [List.cons_append, nvs_cons, nvs_cons]
    cases e : f p.2 n with
    | none => rfl
    | some q =>
      obtain ⟨t, m⟩ := q
      dsimp only
      rw [nvs_append f a b m]
      cases nvs f a m with
      | none => rfl
      | some q1 =>
        obtain ⟨r1, m1⟩ := q1
        dsimp only
        cases nvs f b m1 with
        | none => rfl
        | some q2 => rfl
theorem nvs_one (f : Nd → Nat → Option (Nd × Nat)) (p : Str × Nd) (n : Nat) : nvs f [p] n = match f p.2 n with
    | none => none
    | some (t, m) => some ([(p.1, t)], m) := by
  unfold nvs
  cases f p.2 n with
  | none => rfl
  | some q => rfl
/-- one more -/
theorem nvs_next {f : Nd → Nat → Option (Nd × Nat)} {S r : List (Str × Nd)} {p : Str × Nd} {i n m m' : Nat} {t : Nd} (hi : S[i]? = some p) (h : nvs f (S.take i) n = some (r, m)) (hf : f p.2 m = some (t, m')) : nvs f (S.take (i + 1)) n = some (r ++ [(p.1, t)], m') := by
  rw [take_snoc hi, nvs_append, h]
  dsimp only
  rw [nvs_one, hf]
theorem nvs_stop {f : Nd → Nat → Option (Nd × Nat)} {S r : List (Str × Nd)} {p : Str × Nd} {i n m : Nat} (hi : S[i]? = some p) (h : nvs f (S.take i) n = some (r, m)) (hf : f p.2 m = none) : nvs f S n = none := by
  have e : S = S.take (i + 1) ++ S.drop (i + 1) := (List.take_append_drop _ _).symm
  have q : nvs f (S.take (i + 1)) n = none := by
    rw [take_snoc hi, nvs_append, h]
    dsimp only
    rw [nvs_one, hf]
  rw [e, nvs_append, q]
theorem nvs_names {f : Nd → Nat → Option (Nd × Nat)} : ∀ {S r : List (Str × Nd)} {n m : Nat}, nvs f S n = some (r, m) → r.map (·.1) = S.map (·.1)
  | [], r, n, m, h => by
    cases h
    rfl
  | p :: S, r, n, m, h => by
    unfold nvs at h
    cases e : f p.2 n with
    | none =>
      rw [e] at h
      cases h
    | some q =>
      obtain ⟨t, m1⟩ := q
      rw [e] at h
      dsimp only at h
      cases e2 : nvs f S m1 with
      | none =>
        rw [e2] at h
        cases h
      | some q2 =>
        obtain ⟨r', m'⟩ := q2
        rw [e2] at h
        cases h
        rw [List.map_cons, List.map_cons, nvs_names e2]
theorem nvs_le {f : Nd → Nat → Option (Nd × Nat)} (hf : ∀ t n t' m, f t n = some (t', m) → m ≤ 61) : ∀ {S r : List (Str × Nd)} {n m : Nat}, n ≤ 61 → nvs f S n = some (r, m) → m ≤ 61
  | [], r, n, m, h0, h => by
    cases h
    exact h0
  | p :: S, r, n, m, h0, h => by
    unfold nvs at h
    cases e : f p.2 n with
    | none =>
      rw [e] at h
      cases h
    | some q =>
      obtain ⟨t, m1⟩ := q
      rw [e] at h
      dsimp only at h
      cases e2 : nvs f S m1 with
      | none =>
        rw [e2] at h
        cases h
      | some q2 =>
        obtain ⟨r', m'⟩ := q2
        rw [e2] at h
        cases h
        exact nvs_le hf (hf _ _ _ _ e) e2
theorem nv_le : ∀ (g : Nat) (t : Nd) (n : Nat) (t' : Nd) (m : Nat), nv g t n = some (t', m) → m ≤ 61
  | 0, t, n, t', m, h => by cases h
  | g + 1, t, n, t', m, h => by
    unfold nv at h
    split at h
    · cases h
    · rename_i h61
      cases t with
      | fil i =>
        dsimp only at h
        split at h
        · cases h
          omega
        · cases h
      | lnk z =>
        dsimp only at h
        split at h
        · cases h
          omega
        · cases h
      | dir ks =>
        dsimp only at h
        split at h
        · cases e : nvs (nv g) (sortK ks) (n + 1) with
          | none =>
            rw [e] at h
            cases h
          | some q =>
            obtain ⟨r, m1⟩ := q
            rw [e] at h
            cases h
            exact nvs_le (nv_le g) (by omega) e
        · cases h
/-! ### a dict's entries by place -/
theorem valV_at {κ : Type} [DecidableEq κ] : ∀ {kvs : List (κ × V)} {j : Nat} {k : κ} {v : V}, (kvs.map (·.1)).Nodup → kvs[j]? = some (k, v) → valV kvs k = some v
  | [], j, k, v, _, h => by simp at h
  | p :: r, 0, k, v, _, h => by
    have e : p = (k, v) := Option.some.inj h
    subst e
    simp [valV]
  | p :: r, j + 1, k, v, hn, h => by
    have hn' : (p.1 :: r.map (·.1)).Nodup := hn
    obtain ⟨h1, h2⟩ := List.nodup_cons.mp hn'
    have hr : r[j]? = some (k, v) := h
    have ne : p.1 ≠ k := fun z => h1 (by rw [z]; exact List.mem_map.mpr ⟨(k, v), List.mem_of_getElem? hr, rfl⟩)
    have ih := valV_at h2 hr
    unfold valV at ih ⊢
    rw [List.find?_cons_of_neg (by simpa using ne)]
    exact ih
end Tx
set_option Elab.async false
set_option linter.all false
set_option maxRecDepth 100000
set_option maxHeartbeats 8000000
namespace Tx
open PySem PySem.Spec PyProof.Rows L2 Cm
/-- the class NoTree -/
structure No (K : PySem.W.Frag) (mg : Str → Option Value) (C : Addr) : Prop where
  g : mg "NoTree" = some (.ref C)
  x : PySem.W.excIn K C [.type "ValueError", .type "Exception", .type "BaseException", .type "object"] "ValueError.__new__" = true
  k : PySem.W.keepIn K (.ref C) = true
  b : PySem.W.subIn K (.ref C) (.type "BaseException") = some true
  t : PySem.W.typeIn K (.ref C) = some (.type "type")
  e : PySem.W.exmOne K (.ref C) (.ref C) = some true
def spNode (C : Addr) (g : Nat) : Sp := fun vs H Q E => ∃ v t m ms, vs = [v, .int (9 - (g : Int)), .ref m] ∧ NdAt H v t ∧ H m = some (.lst ms) ∧ ms.length ≤ 61 ∧
  (∀ t' n, nv g t ms.length = some (t', n) → ∀ v' ms' H', NdAt (newIn H H') v' t' → H' m = some (.lst ms') → ms'.length = n → But m H H' → Q v' H') ∧
  (nv g t ms.length = none → ∀ H', But m H H' → (∃ ms', H' m = some (.lst ms')) → E (.ref C) none H')
abbrev nN : List Str := ["thing", "depth", "met", "name"]
theorem scNode : FnScope nN ["thing", "depth", "met"] (defScope sNode) := ⟨rfl, rfl, rfl, by decide +kernel, rfl, by decide +kernel, by decide +kernel⟩
def stN (i : Nat) : Stmt := (defBody sNode).getD i (.Pass ⟨0, 0, 0, 0⟩)
section
variable {P : Program} {w : World} {K : PySem.W.Frag} {mg : Str → Option Value} {base : Heap} {f C : Addr} {cdv : Value} {A : Around} {outer : List Env} {s : Shared} {H0 : Hp} {E : XK}
abbrev XN (P : Program) (w : World) (K : PySem.W.Frag) (mg : Str → Option Value) (base : Heap) (f : Addr) (cdv : Value) (A : Around) (outer : List Env) (s : Shared) (H0 : Hp) (E : XK) : Cx := cxOf (L2.CX P w) P w K mg base nN "node_value" (defScope sNode) f cdv A outer s H0 E
/-- raise NoTree('..') -/
theorem ps_no {m : Str} {j : Nat} {p p2 p3 p4 : Pos} (T : No K mg C) : PS (XN P w K mg base f cdv A outer s H0 E) (.Raise (some (.Call (.Name "NoTree" p) [.Constant (.str m) j p2] [] p3)) none p4) (fun _ _ H => E (.ref C) none H) :=
  ps_raise rfl (takes_of rfl rfl rfl rfl) (pmk_own PySem.F.excBase_ValueError T.x T.g T.k (raises_own T.b T.t) (by rfl))
def sl (v : V) (d : Int) (m : Addr) : L2.St := [some v, some (.int d), some (.ref m), none]
/-- met.append(depth); the two checks -/
theorem hN0 {v : V} {d : Int} {m : Addr} {ms : List V} {H : Hp} (hm : H m = some (.lst ms)) (hl : ms.length ≤ 61) :
    Ho (XN P w K mg base f cdv A outer s H0 E) (stN 0) (fun σ H' => σ = sl v d m ∧ H' = H) (fun σ H' => σ = sl v d m ∧ H' = upd H m (.lst (ms ++ [.int d]))) := by
  refine ⟨_, ps_expr (pe_bm PySem.F.plainAttrs_list PySem.F.slot_list_append PySem.F.type_list_append mt_append (pv 2) (pa_cons (pv 1) pa_nil)), ?_⟩
  rintro D σ H' ⟨rfl, rfl⟩ q
  exact ⟨_, rfl, .inl ⟨rfl, _, SqL.of hm⟩, _, rfl, m, ms, _, rfl, rfl, hm, small1000 (by omega), q _ _ ⟨rfl, rfl⟩⟩
theorem hN1 {v : V} {d : Int} {m : Addr} {H : Hp} (Cn : Co mg) (T : No K mg C) (hx : 8 < d → E (.ref C) none H) :
    Ho (XN P w K mg base f cdv A outer s H0 E) (stN 1) (fun σ H' => σ = sl v d m ∧ H' = H) (fun σ H' => σ = sl v d m ∧ H' = H ∧ d ≤ 8) := by
  obtain ⟨td, hd⟩ := Cn.depth
  refine ⟨_, ps_if (pt_cmpR op_gt (pv 1) (pe_glob (v := .int 8) (by rfl) hd ⟨_, rfl⟩) (nomark _)) (pss_one (ps_no T)) pss_nil, ?_⟩
  rintro D σ H' ⟨rfl, rfl⟩ q
  refine ⟨_, rfl, d, 8, rfl, rfl, _, rfl, ite2 (fun c => hx (of_decide_eq_true c)) (fun c => ?_)⟩
  have c' : ¬ 8 < d := fun z => c (decide_eq_true z)
  exact q _ _ ⟨rfl, rfl, by omega⟩
theorem hN2 {v : V} {d : Int} {m : Addr} {H : Hp} {ms : List V} (B : Bi mg) (Cn : Co mg) (T : No K mg C) (hm : H m = some (.lst ms)) (hx : 61 < ms.length → E (.ref C) none H) :
    Ho (XN P w K mg base f cdv A outer s H0 E) (stN 2) (fun σ H' => σ = sl v d m ∧ H' = H ∧ d ≤ 8) (fun σ H' => σ = sl v d m ∧ H' = H ∧ ms.length ≤ 61) := by
  obtain ⟨td, hd⟩ := Cn.nodes
  refine ⟨_, ps_if (pt_cmpR op_gt (pe_callB call_len_seq (by rfl) B.len PySem.boot_len (pa_cons (pv 2) pa_nil)) (pe_op op_add (pe_glob (v := .int 60) (by rfl) hd ⟨_, rfl⟩) pe_int) (nomark _)) (pss_one (ps_no T)) pss_nil, ?_⟩
  rintro D σ H' ⟨rfl, rfl, _⟩ q
  refine ⟨_, rfl, m, ms, rfl, .inl (SqL.of hm), 60, 1, rfl, rfl, _, _, rfl, rfl, _, rfl, ite2 (fun c => hx ?_) (fun c => ?_)⟩
  · have c' : (60 : Int) + 1 < (ms.length : Int) := of_decide_eq_true c
    omega
  · have c' : ¬ (60 : Int) + 1 < (ms.length : Int) := fun z => c (decide_eq_true z)
    exact q _ _ ⟨rfl, rfl, by omega⟩
/-- behind the dict's branch: a file or a link -/
theorem hN4 {v : V} {t : Nd} {d : Int} {m : Addr} {H : Hp} (B : Bi mg) (T : No K mg C) (W : Cl P w K mg base CX0 1 "is_whole" ["thing", "low", "high"] (spWhole K)) (Pt : Cl P w K mg base CX0 2 "is_path" ["thing"] (spPath K)) (hr : Room 2 (XN P w K mg base f cdv A outer s H0 E).A)
    (R : VK) (h1 : ∀ i, t = .fil i → v = .int i ∧ ∀ H', Same H H' → if wholeB i = true then R v H' else E (.ref C) none H') (h2 : ∀ z, t = .lnk z → v = .str z ∧ z.length ≤ 100000 ∧ ∀ H', Same H H' → if pathB z = true then R v H' else E (.ref C) none H') (h3 : ∀ ks, t ≠ .dir ks) :
    HoR (XN P w K mg base f cdv A outer s H0 E) [stN 4, stN 5, stN 6] (fun σ H' => σ = sl v d m ∧ H' = H) R := by
  refine ⟨_, pss_cons (ps_if (PW.pt (pw_and (pt_val (pe_callB call_isi (by rfl) B.isin (by decide +kernel) (pa_cons (pv 0) (pa_cons (pe_bltn (v := .ty "str") (by rfl) B.str (by decide +kernel) rfl) pa_nil)))) (pw_and1 (pt_val (pe_cl Pt hr (by decide) (by rfl) pass0 (pa_cons (pv 0) pa_nil)))))) (pss_one (ps_ret (pv 0))) pss_nil)
    (pss_cons (ps_if (pt_val (pe_cl W hr (by decide) (by rfl) pass0 (pa_cons (pv 0) (pa_cons (pe_op op_sub pe_int (pe_op op_pow pe_int pe_int)) (pa_cons (pe_op op_sub (pe_op op_pow pe_int pe_int) pe_int) pa_nil))))) (pss_one (ps_ret (pv 0))) pss_nil)
    (pss_one (ps_no T))), ?_⟩
  rintro D σ H' ⟨rfl, rfl⟩ q
  cases t with
  | dir ks => exact absurd rfl (h3 ks)
  | fil i =>
    obtain ⟨rfl, hq⟩ := h1 i rfl
    refine ⟨_, rfl, _, .ty "str", _, _, false, rfl, .ty _, .base (.int i), kit_ty (by decide +kernel), _, rfl, iteF (iteF ?_)⟩
    refine ⟨_, rfl, 10, 60, rfl, rfl, ⟨by decide, by decide, by decide⟩, 1, _, rfl, rfl, 10, 60, rfl, rfl, ⟨by decide, by decide, by decide⟩, _, 1, rfl, rfl, _, _, _, _, rfl, .int i _ _, _, rfl, ite2 (fun c => ?_) (fun c => ?_)⟩
    · have hh := hq H' (Same.refl H')
      rw [if_pos (show wholeB i = true from c)] at hh
      exact ⟨_, rfl, q _ _ hh⟩
    · have hh := hq H' (Same.refl H')
      rw [if_neg (show ¬ wholeB i = true from c)] at hh
      exact hh
  | lnk z =>
    obtain ⟨rfl, hz, hq⟩ := h2 z rfl
    refine ⟨_, rfl, _, .ty "str", _, _, true, rfl, .ty _, .base (.str z), kit_ty (by decide +kernel), _, rfl, iteT ?_⟩
    refine ⟨_, rfl, _, _, rfl, .str z hz, fun H2 s2 => ⟨_, rfl, ite2 (fun c => ?_) (fun c => ?_)⟩⟩
    · have hh := hq H2 s2
      rw [if_pos c] at hh
      exact ⟨_, rfl, q _ _ hh⟩
    · have hh := hq H2 s2
      rw [if_neg c] at hh
      refine ⟨_, rfl, 10, 60, rfl, rfl, ⟨by decide, by decide, by decide⟩, 1, _, rfl, rfl, 10, 60, rfl, rfl, ⟨by decide, by decide, by decide⟩, _, 1, rfl, rfl, _, _, _, _, rfl, .other _ _ (.base (.str z)) (by decide +kernel), _, rfl, iteF ?_⟩
      exact hh
end
end Tx
set_option Elab.async false
set_option linter.all false
set_option maxRecDepth 100000
set_option maxHeartbeats 8000000
namespace Tx
open PySem PySem.Spec PyProof.Rows L2 Cm
section
variable {P : Program} {w : World} {K : PySem.W.Frag} {mg : Str → Option Value} {base : Heap} {f C : Addr} {cdv : Value} {A : Around} {outer : List Env} {s : Shared} {H0 : Hp} {E : XK}
/-- no dict: go on -/
theorem hN3n {v : V} {t : Nd} {d : Int} {m : Addr} {H : Hp} {n : Nat} (B : Bi mg) (hv : NdAt H v t) (h3 : ∀ ks, t ≠ .dir ks) :
    Ho (XN P w K mg base f cdv A outer s H0 E) (stN 3) (fun σ H' => σ = sl v d m ∧ H' = H ∧ n ≤ 61) (fun σ H' => σ = sl v d m ∧ H' = H) := by
  refine ⟨_, ps_if (pt_val (pe_callB call_isi (by rfl) B.isin (by decide +kernel) (pa_cons (pv 0) (pa_cons (pe_bltn (v := .ty "dict") (by rfl) B.dict (by decide +kernel) rfl) pa_nil)))) (pss_cons ps_never (pss_one ps_never)) pss_nil, ?_⟩
  rintro D σ H' ⟨rfl, rfl, _⟩ q
  cases hv with
  | fil i => exact ⟨_, rfl, _, .ty "dict", _, _, false, rfl, .ty _, .base (.int i), kit_ty (by decide +kernel), _, rfl, iteF (q _ _ ⟨rfl, rfl⟩)⟩
  | lnk z hz => exact ⟨_, rfl, _, .ty "dict", _, _, false, rfl, .ty _, .base (.str z), kit_ty (by decide +kernel), _, rfl, iteF (q _ _ ⟨rfl, rfl⟩)⟩
  | dir h hk hn hl hz hv => exact absurd rfl (h3 _)
/-- if not all([is_name(name) for name in thing]): raise -/
def stN3 (i : Nat) : Stmt := match stN 3 with | .If _ b _ _ => b.getD i (.Pass ⟨0, 0, 0, 0⟩) | _ => .Pass ⟨0, 0, 0, 0⟩
theorem hD0 {a : Addr} {ks : List (Str × Nd)} {kvs : List (Key × V)} {d : Int} {m : Addr} {H : Hp} (B : Bi mg) (T : No K mg C) (N : Cl P w K mg base CX0 1 "is_name" ["thing"] (spName K)) (hr : Room 2 (XN P w K mg base f cdv A outer s H0 E).A)
    (h : H a = some (.dK kvs)) (hk : kvs.map (·.1) = ks.map fun p => (Sum.inr p.1 : Key)) (hl : ks.length < 64) (hz : ∀ p ∈ ks, p.1.length ≤ 100000) (hx : (ks.all fun p => nameB p.1) = false → ∀ H', Same H H' → E (.ref C) none H') :
    Ho (XN P w K mg base f cdv A outer s H0 E) (stN3 0) (fun σ H' => σ = sl (.ref a) d m ∧ H' = H) (fun σ H' => σ = sl (.ref a) d m ∧ Same H H' ∧ (ks.all fun p => nameB p.1) = true) := by
  refine ⟨_, ps_if (pt_not (pt_val (pe_callB (cr_all rfl) (by rfl) B.all (by decide +kernel) (pa_cons (pe_lock (pe_lc (own := [("name", 3)]) (g := gName 3) (tt := tYes) (by rfl) scNode.nd (pi_keys (pv 0)) (blkOk_by (own := [("name", 3)]) (N := nN) (sc := defScope sNode) (by decide +kernel)) (fun _ _ _ _ _ => pg_name (i := 3) scNode.nd rfl (Or.inl rfl)) (fun _ _ _ _ _ => pts_nil) (fun _ _ _ _ _ => pe_cl N hr (by decide) (by rfl) pass0 (pa_cons (pv 3) pa_nil)))) pa_nil)))) (pss_one (ps_no T)) pss_nil, ?_⟩
  rintro D σ H' ⟨rfl, rfl⟩ q
  have hlen : kvs.length = ks.length := by
    have e := congrArg List.length hk
    rw [List.length_map, List.length_map] at e
    exact e
  refine ⟨a, .dK kvs, h, True.intro, fun od => ?_⟩
  refine ⟨_, rfl, a, od, rfl, .inl ⟨kvs, upd_same, fun L hL => lc_it walk_keys (fun i H2 => H2 L = some (.lst (((ks.map fun p => nameB p.1).take i).map V.bl)) ∧ H2 a = some (.frz od (.dK kvs)) ∧ ∀ b o, b ≠ a → H' b = some o → H2 b = some o) ?_ (fun i H2 _ h2 => h2.2.1) ?_ ?_⟩⟩
  · have na : a ≠ L := ne_of_none (show upd H' a _ a = some _ from upd_same) hL
    refine ⟨upd_same, by rw [upd_ne na]; exact upd_same, fun b o nb e => ?_⟩
    have e2 : upd H' a (.frz od (.dK kvs)) b = some o := by rw [upd_ne nb]; exact e
    rw [upd_ne (ne_of_none e2 hL)]
    exact e2
  · rintro i x H1 H2 hi ⟨h1, h2, h3⟩ ⟨rfl, k, v, hkv, rfl⟩
    have na : a ≠ L := ne_of_none (show upd H' a _ a = some _ from upd_same) hL
    have hi' : i < ks.length := by omega
    have ek : k = Sum.inr ks[i].1 := by
      have e1 : (kvs.map (·.1))[i]? = some k := by rw [List.getElem?_map, hkv]; rfl
      rw [hk, List.getElem?_map, List.getElem?_eq_getElem hi'] at e1
      exact (Option.some.inj e1).symm
    subst ek
    refine ⟨rfl, _, rfl, _, _, rfl, .str ks[i].1 (hz _ (List.getElem_mem hi')), fun H3 s3 => ?_⟩
    have eg : (ks.map fun p => nameB p.1)[i]? = some (nameB ks[i].1) := by
      rw [List.getElem?_map, List.getElem?_eq_getElem hi']
      rfl
    refine ⟨_, s3 _ _ h1, small1000 ?_, ?_, ?_, fun b o nb e => ?_⟩
    · rw [List.length_map, List.length_take, List.length_map]
      omega
    · rw [upd_same, take_snoc eg, List.map_append]
      rfl
    · rw [upd_ne na]
      exact s3 _ _ h2
    · have nL : H' L = none := by
        cases e0 : H' L with
        | none => rfl
        | some o0 =>
          exfalso
          have z : upd H' a (.frz od (.dK kvs)) L = some o0 := by rw [upd_ne na.symm]; exact e0
          rw [z] at hL
          cases hL
      rw [upd_ne (ne_of_none e nL)]
      exact s3 _ _ (h3 b o nb e)
  · rintro H1 ⟨h1, h2, h3⟩
    have na : a ≠ L := ne_of_none (show upd H' a _ a = some _ from upd_same) hL
    have e : (ks.map fun p => nameB p.1).take kvs.length = ks.map fun p => nameB p.1 := List.take_of_length_le (by rw [List.length_map]; omega)
    rw [e] at h1
    have sm : Same H' (upd H1 a (.dK kvs)) := fun b o e => by
      by_cases eb : b = a
      · subst eb
        rw [upd_same, ← h]
        exact e
      · rw [upd_ne eb]
        exact h3 b o eb e
    refine ⟨h2, L, _, rfl, SqL.of (by rw [upd_ne na.symm]; exact h1), _, rfl, ?_⟩
    have ea : (ks.map fun p => nameB p.1).all id = ks.all fun p => nameB p.1 := by
      rw [List.all_map]
      rfl
    rw [ea]
    cases c : (ks.all fun p => nameB p.1) with
    | true => exact iteF (q _ _ ⟨rfl, sm, c⟩)
    | false => exact iteT (hx c _ sm)
end
end Tx
set_option Elab.async false
set_option linter.all false
set_option maxRecDepth 100000
set_option maxHeartbeats 8000000
namespace Tx
open PySem PySem.Spec PyProof.Rows L2 Cm
/-- all but m and D stay -/
def But2 (m D : Addr) (H H' : Hp) : Prop := ∀ b o, b ≠ m → b ≠ D → H b = some o → H' b = some o
/-- what holds of the new dict at D when i names are done -/
structure DcI (f : Nd → Nat → Option (Nd × Nat)) (S : List (Str × Nd)) (n0 : Nat) (HD : Hp) (m D : Addr) (i : Nat) (H' : Hp) (r : List (Str × Nd)) (n : Nat) (kvs : List (Key × V)) (ms : List V) : Prop where
  nvs : nvs f (S.take i) n0 = some (r, n)
  d : H' D = some (.dK kvs)
  k : kvs.map (·.1) = r.map fun p => (Sum.inr p.1 : Key)
  v : ∀ (j : Nat) (kv : Key × V) (p : Str × Nd), kvs[j]? = some kv → r[j]? = some p → NdAt (newIn HD H') kv.2 p.2
  mm : H' m = some (.lst ms)
  ml : ms.length = n
  b : But2 m D HD H'
theorem DcI.next {f : Nd → Nat → Option (Nd × Nat)} {S : List (Str × Nd)} {n0 : Nat} {HD H1 H2 : Hp} {m D : Addr} {i n n' : Nat} {r : List (Str × Nd)} {kvs : List (Key × V)} {ms ms' : List V} {p : Str × Nd} {t' : Nd} {v' : V}
    (I : DcI f S n0 HD m D i H1 r n kvs ms) (hS : (S.map (·.1)).Nodup) (hp : S[i]? = some p) (hf : f p.2 n = some (t', n')) (hmD : m ≠ D) (hDm : ∃ o, HD m = some o) (hDD : ∃ o, HD D = some o)
    (hv : NdAt (newIn H1 H2) v' t') (hm : H2 m = some (.lst ms')) (hl : ms'.length = n') (hb : But m H1 H2) :
    H2 D = some (.dK kvs) ∧ DcI f S n0 HD m D (i + 1) (upd H2 D (.dK (putK kvs (Sum.inr p.1) v'))) (r ++ [(p.1, t')]) n' (putK kvs (Sum.inr p.1) v') ms' := by
  have hD2 : H2 D = some (.dK kvs) := hb D _ hmD.symm I.d
  have hlen : kvs.length = r.length := by
    have e := congrArg List.length I.k
    rw [List.length_map, List.length_map] at e
    exact e
  have hrn : r.map (·.1) = (S.take i).map (·.1) := nvs_names I.nvs
  have hnew : valV kvs (Sum.inr p.1 : Key) = none := by
    unfold valV
    have z : kvs.find? (fun q => decide (q.1 = (Sum.inr p.1 : Key))) = none := by
      rw [List.find?_eq_none]
      intro q hq c
      have c' : q.1 = (Sum.inr p.1 : Key) := of_decide_eq_true c
      have h1 : (Sum.inr p.1 : Key) ∈ kvs.map (·.1) := List.mem_map.mpr ⟨q, hq, c'⟩
      rw [I.k] at h1
      obtain ⟨q2, hq2, e2⟩ := List.mem_map.mp h1
      have e3 : q2.1 = p.1 := Sum.inr.inj e2
      have h3 : p.1 ∈ (S.take i).map (·.1) := by
        rw [← hrn, ← e3]
        exact List.mem_map.mpr ⟨q2, hq2, rfl⟩
      have hS2 : ((S.take (i + 1)).map (·.1)).Nodup := by
        have q : (S.take (i + 1)).Sublist S := List.take_sublist _ _
        exact (q.map _).nodup hS
      rw [take_snoc hp, List.map_append, List.nodup_append] at hS2
      exact hS2.2.2 p.1 h3 p.1 (by simp) rfl
    rw [z]
    rfl
  have hput : putK kvs (Sum.inr p.1 : Key) v' = kvs ++ [(Sum.inr p.1, v')] := putK_new v' hnew
  have kp1 : DKeep (newIn HD H1) (newIn HD (upd H2 D (.dK (putK kvs (Sum.inr p.1) v')))) := newIn_part (fun b o h => ⟨o, h⟩) fun b k h0 h1 => by
    have nD : b ≠ D := fun z => by
      obtain ⟨o, e⟩ := hDD
      rw [z, e] at h0
      cases h0
    have nm : b ≠ m := fun z => by
      obtain ⟨o, e⟩ := hDm
      rw [z, e] at h0
      cases h0
    rw [upd_ne nD]
    exact hb b _ nm h1
  have kp2 : DKeep (newIn H1 H2) (newIn HD (upd H2 D (.dK (putK kvs (Sum.inr p.1) v')))) := newIn_part (fun b o h => by
    by_cases c1 : b = m
    · exact ⟨_, by rw [c1]; exact I.mm⟩
    · by_cases c2 : b = D
      · exact ⟨_, by rw [c2]; exact I.d⟩
      · exact ⟨o, I.b b o c1 c2 h⟩) fun b k h0 h1 => by
    have nD : b ≠ D := fun z => by
      rw [z, I.d] at h0
      cases h0
    rw [upd_ne nD]
    exact h1
  refine ⟨hD2, ⟨nvs_next hp I.nvs hf, upd_same, ?_, ?_, ?_, hl, ?_⟩⟩
  · rw [hput, List.map_append, List.map_append, I.k]
    rfl
  · rw [hput]
    intro j kv q h1 h2
    by_cases c : j < kvs.length
    · rw [List.getElem?_append_left c] at h1
      rw [List.getElem?_append_left (by omega)] at h2
      have z := (I.v j kv q h1 h2).mono kp1
      rw [hput] at z
      exact z
    · rw [List.getElem?_append_right (by omega)] at h1 h2
      have e : j - kvs.length = 0 := by
        cases e : j - kvs.length with
        | zero => rfl
        | succ k =>
          rw [e] at h1
          cases h1
      rw [← hlen, e] at h2
      rw [e] at h1
      cases h1
      cases h2
      have z := hv.mono kp2
      rw [hput] at z
      exact z
  · rw [upd_ne hmD]
    exact hm
  · intro b o n1 n2 h
    rw [upd_ne n2]
    exact hb b o n1 (I.b b o n1 n2 h)
section
variable {P : Program} {w : World} {K : PySem.W.Frag} {mg : Str → Option Value} {base : Heap} {f C : Addr} {cdv : Value} {A : Around} {outer : List Env} {s : Shared} {H0 : Hp} {E : XK}
/-- return {name: node_value(thing[name], depth + 1, met) for name in sorted(thing)} -/
theorem hD1 {pr : Prop} {g j : Nat} {a : Addr} {ks : List (Str × Nd)} {m : Addr} {H : Hp} {ms : List V} (B : Bi mg) (R : VK) (NX : Cl P w K mg base (L2.CX P w) j "node_value" ["thing", "depth", "met"] (spNode C g)) (hr : Room j (XN P w K mg base f cdv A outer s H0 E).A)
    (hH : NdAt H (.ref a) (.dir ks)) (hm : H m = some (.lst ms)) (hms : ms.length ≤ 61)
    (hq : pr → ∀ ks' n, nvs (nv g) (sortK ks) ms.length = some (ks', n) → ∀ D ms' H', NdAt (newIn H H') (.ref D) (.dir ks') → H' m = some (.lst ms') → ms'.length = n → But m H H' → R (.ref D) H')
    (hx : pr → nvs (nv g) (sortK ks) ms.length = none → ∀ H', But m H H' → (∃ ms', H' m = some (.lst ms')) → E (.ref C) none H') :
    HoR (XN P w K mg base f cdv A outer s H0 E) [stN3 1] (fun σ H' => σ = sl (.ref a) (8 - (g : Int)) m ∧ Same H H' ∧ pr) R := by
  have hu : (XN P w K mg base f cdv A outer s H0 E).A.units + 1 < cLine := by
    have := hr.units
    omega
  refine ⟨_, pss_one (ps_ret (DcE.pe_dcE (own := [("name", 3)]) (g := gName 3) (E := E) (by rfl) scNode.nd (takes_of rfl rfl rfl rfl) (by rfl) (by rfl) (pi_list (pe_callB (call_sortedD rfl) (by rfl) B.sorted boot_sorted (pa_cons (pv 0) pa_nil))) (blkOk_by (own := [("name", 3)]) (N := nN) (sc := defScope sNode) (by decide +kernel)) (fun _ _ _ _ _ => pg_name (i := 3) scNode.nd rfl (Or.inl rfl)) (fun _ _ _ _ _ => pv 3)
    (fun _ _ _ _ _ _ hP => pe_cl NX hr (Nat.le_refl _) (by rfl) hP (pa_cons (pe_dget hu (pv 0) (pv 3) (fun _ _ => rfl)) (pa_cons (pe_op op_add (pv 1) pe_int) (pa_cons (pv 2) pa_nil)))))), ?_⟩
  rintro D0 σ H' ⟨rfl, sm, hpr⟩ q
  replace hq := fun ks' n e D ms' H2 (hN : NdAt (newIn H' H2) (.ref D) (.dir ks')) hM hL (hB : But m H' H2) => hq hpr ks' n e D ms' H2 (hN.mono (newIn_part (fun b o eb => ⟨o, sm _ _ eb⟩) fun _ _ _ e => e)) hM hL ((Same.but m sm).trans hB)
  replace hx := fun e H2 (hB : But m H' H2) hM => hx hpr e H2 ((Same.but m sm).trans hB) hM
  replace hH := hH.mono (DKeep.same sm)
  replace hm := sm _ _ hm
  clear sm hpr
  cases hH with
  | @dir _ kvs _ h hk hn hl hz hv =>
  have hk0 : kvs.map (·.1) = (ks.map (·.1)).map (Sum.inr : Str → Key) := by
    rw [List.map_map]
    exact hk
  refine ⟨_, rfl, a, kvs, ks.map (·.1), rfl, .inl h, hk0, by rw [List.length_map]; exact hl, fun ys p hp hs hpn => ?_⟩
  have eys : ys = (sortK ks).map (·.1) := sortK_names hp hs
  subst eys
  obtain ⟨HS, eHS⟩ : ∃ HS, HS = upd H' p (.lst (((sortK ks).map (·.1)).map V.str)) := ⟨_, rfl⟩
  rw [← eHS]
  have hSp : HS p = some (.lst (((sortK ks).map (·.1)).map V.str)) := by rw [eHS]; exact upd_same
  have sS : Same H' HS := by rw [eHS]; exact same_new hpn
  refine ⟨p, rfl, ⟨_, SqL.of hSp⟩, fun D hD => ?_⟩
  have hmS : HS m = some (.lst ms) := sS _ _ hm
  have mD : m ≠ D := ne_of_none hmS hD
  have pD : p ≠ D := ne_of_none hSp hD
  have aD : a ≠ D := ne_of_none (sS _ _ h) hD
  have am : a ≠ m := fun z => by
    rw [z, hm] at h
    cases h
  have pm : p ≠ m := fun z => by
    rw [z, hm] at hpn
    cases hpn
  have keepH : ∀ {b o}, H' b = some o → b ≠ D := fun {b o} e => ne_of_none (sS _ _ e) hD
  have hkn : (kvs.map (·.1)).Nodup := by
    rw [hk0]
    unfold List.Nodup at hn ⊢
    rw [List.pairwise_map]
    exact hn.imp fun h e => h (Sum.inr.inj e)
  obtain ⟨HD, eHD⟩ : ∃ HD, HD = upd HS D (.dK []) := ⟨_, rfl⟩
  have hDm : HD m = some (.lst ms) := by rw [eHD, upd_ne mD]; exact hmS
  have hDp : HD p = some (.lst (((sortK ks).map (·.1)).map V.str)) := by rw [eHD, upd_ne pD]; exact hSp
  have hDD : HD D = some (.dK []) := by rw [eHD]; exact upd_same
  have HtoD : ∀ b o, H' b = some o → HD b = some o := fun b o e => by
    rw [eHD, upd_ne (keepH e)]
    exact sS _ _ e
  refine DcE.dce_list (K := K) (xs := ((sortK ks).map (·.1)).map V.str) (fun i H2 => ∃ r n kv2 ms2, DcI (nv g) (sortK ks) ms.length HD m D i H2 r n kv2 ms2) ?_ ?_ ?_ ?_
  · rw [← eHD]
    exact ⟨[], ms.length, [], ms, rfl, hDD, rfl, fun j kv p e => by simp at e, hDm, rfl, fun b o _ _ e => e⟩
  · rintro i H2 _ ⟨r, n, kv2, ms2, I⟩
    exact SqL.of (I.b p _ pm pD hDp)
  · rintro i x H2 hi ⟨r, n, kv2, ms2, I⟩
    obtain ⟨pr, hpr, rfl⟩ : ∃ pr, (sortK ks)[i]? = some pr ∧ x = .str pr.1 := by
      rw [List.map_map, List.getElem?_map] at hi
      cases e : (sortK ks)[i]? with
      | none =>
        rw [e] at hi
        cases hi
      | some pr =>
        rw [e] at hi
        exact ⟨pr, rfl, (Option.some.inj hi).symm⟩
    have hmem : pr ∈ ks := sortK_mem.mp (List.mem_of_getElem? hpr)
    obtain ⟨j0, hj0⟩ := List.getElem?_of_mem hmem
    have hlen : kvs.length = ks.length := by
      have e := congrArg List.length hk
      rw [List.length_map, List.length_map] at e
      exact e
    have hjl : j0 < kvs.length := by
      rw [hlen]
      exact (List.getElem?_eq_some_iff.mp hj0).1
    obtain ⟨kv, hkv⟩ : ∃ kv, kvs[j0]? = some kv := ⟨_, List.getElem?_eq_getElem hjl⟩
    have ekv : kv.1 = Sum.inr pr.1 := by
      have e1 : (kvs.map (·.1))[j0]? = some kv.1 := by rw [List.getElem?_map, hkv]; rfl
      rw [hk, List.getElem?_map, hj0] at e1
      exact (Option.some.inj e1).symm
    have hget : valV kvs (Sum.inr pr.1 : Key) = some kv.2 := valV_at hkn (by rw [hkv, ← ekv])
    have h2a : H2 a = some (.dK kvs) := I.b a _ am aD (HtoD _ _ h)
    have hle : n ≤ 61 := nvs_le (nv_le g) hms I.nvs
    have hch : NdAt H2 kv.2 pr.2 := (hv j0 kv pr hkv hj0).mono fun b kvb e => I.b b _ (fun z => by
      rw [z, hm] at e
      cases e) (keepH e) (HtoD _ _ e)
    refine ⟨rfl, _, rfl, _, rfl, _, rfl, a, kv.2, rfl, ?_, ?_⟩
    · have z := DGet.k (k := (Sum.inr pr.1 : Key)) h2a
      rw [hget] at z
      exact z
    refine ⟨_, rfl, _, _, rfl, rfl, _, rfl, kv.2, pr.2, m, ms2, ?_, hch, I.mm, by rw [I.ml]; exact hle, ?_, ?_⟩
    · have e : (8 - (g : Int)) + 1 = 9 - (g : Int) := by omega
      rw [← e]
      rfl
    · intro t' n' e v' ms' H3 hv' hm' hl' hb'
      rw [I.ml] at e
      obtain ⟨z1, z2⟩ := I.next (sortK_nodup hn) hpr e mD ⟨_, hDm⟩ ⟨_, hDD⟩ hv' hm' hl' hb'
      refine ⟨kv2, Sum.inr pr.1, rfl, z1, small1000 ?_, _, _, _, _, z2⟩
      have e1 := congrArg List.length I.k
      rw [List.length_map, List.length_map] at e1
      have e2 := congrArg List.length (nvs_names I.nvs)
      rw [List.length_map, List.length_map, List.length_take] at e2
      have e3 := sortK_len ks
      omega
    · intro e H3 hb' hm'
      rw [I.ml] at e
      refine hx (nvs_stop hpr I.nvs e) H3 (fun b o nb eb => ?_) hm'
      exact hb' b o nb (I.b b o nb (keepH eb) (HtoD _ _ eb))
  · rintro H2 ⟨r, n, kv2, ms2, I⟩
    have e : (sortK ks).take (((sortK ks).map (·.1)).map V.str).length = sortK ks := List.take_of_length_le (by rw [List.length_map, List.length_map]; exact Nat.le_refl _)
    have hnvs := I.nvs
    rw [e] at hnvs
    have er : r.map (·.1) = (sortK ks).map (·.1) := nvs_names hnvs
    refine q _ _ (hq r n hnvs D ms2 H2 ?_ I.mm I.ml fun b o nb eb => I.b b o nb (keepH eb) (HtoD _ _ eb))
    have hDn : H' D = none := by
      cases e0 : H' D with
      | none => rfl
      | some o =>
        rw [sS _ _ e0] at hD
        cases hD
    refine .dir (by rw [newIn_of hDn]; exact I.d) I.k (by rw [er]; exact sortK_nodup hn) ?_ ?_ ?_
    · have e3 := congrArg List.length er
      rw [List.length_map, List.length_map, sortK_len] at e3
      omega
    · intro q0 hq0
      have z : q0.1 ∈ (sortK ks).map (·.1) := by
        rw [← er]
        exact List.mem_map.mpr ⟨q0, hq0, rfl⟩
      obtain ⟨q1, hq1, e1⟩ := List.mem_map.mp z
      rw [← e1]
      exact hz _ (sortK_mem.mp hq1)
    · intro i kv p0 e1 e2
      refine (I.v i kv p0 e1 e2).mono (newIn_part (fun b o eb => ⟨o, HtoD _ _ eb⟩) fun b kb _ eb => eb)
/-- a dict -/
theorem hN3d {g j : Nat} {a : Addr} {ks : List (Str × Nd)} {m : Addr} {H : Hp} {ms : List V} {x : Nat} (B : Bi mg) (T : No K mg C) (R : VK) (N : Cl P w K mg base CX0 1 "is_name" ["thing"] (spName K)) (NX : Cl P w K mg base (L2.CX P w) j "node_value" ["thing", "depth", "met"] (spNode C g)) (hr : Room j (XN P w K mg base f cdv A outer s H0 E).A) (hj : 2 ≤ j)
    (hH : NdAt H (.ref a) (.dir ks)) (hm : H m = some (.lst ms)) (hms : ms.length ≤ 61)
    (hq : (ks.all fun p => nameB p.1) = true → ∀ ks' n, nvs (nv g) (sortK ks) ms.length = some (ks', n) → ∀ D ms' H', NdAt (newIn H H') (.ref D) (.dir ks') → H' m = some (.lst ms') → ms'.length = n → But m H H' → R (.ref D) H')
    (hx : (ks.all fun p => nameB p.1) = false ∨ nvs (nv g) (sortK ks) ms.length = none → ∀ H', But m H H' → (∃ ms', H' m = some (.lst ms')) → E (.ref C) none H') :
    HoR (XN P w K mg base f cdv A outer s H0 E) [stN 3, stN 4, stN 5, stN 6] (fun σ H' => σ = sl (.ref a) (8 - (g : Int)) m ∧ H' = H ∧ x ≤ 61) R := by
  cases hH with
  | @dir _ kvs _ h hk hn hl hz hv =>
  have b0 := hD0 (s := s) (H0 := H0) (E := E) (A := A) (outer := outer) (cdv := cdv) (d := 8 - (g : Int)) (m := m) B T N (hr.mono hj) h hk hl hz (fun c H' sm => hx (.inl c) H' (Same.but m sm) ⟨ms, sm _ _ hm⟩)
  obtain ⟨t0, p0, r0⟩ := b0
  obtain ⟨t1, p1, r1⟩ := hD1 (s := s) (H0 := H0) (E := E) (A := A) (outer := outer) (cdv := cdv) (f := f) (pr := (ks.all fun p => nameB p.1) = true) B R NX hr (.dir h hk hn hl hz hv) hm hms hq (fun _ e => hx (.inr e))
  refine ⟨_, pss_cons (ps_if (pt_val (pe_callB call_isi (by rfl) B.isin (by decide +kernel) (pa_cons (pv 0) (pa_cons (pe_bltn (v := .ty "dict") (by rfl) B.dict (by decide +kernel) rfl) pa_nil)))) (pss_cons p0 p1) pss_nil) (pss_cons ps_never (pss_cons ps_never (pss_one ps_never))), ?_⟩
  rintro D σ H' ⟨rfl, rfl, _⟩ q
  refine ⟨_, rfl, _, .ty "dict", _, _, true, rfl, .ty _, .base (.dK h), kit_ty (by decide +kernel), _, rfl, iteT ?_⟩
  exact r0 _ _ _ ⟨rfl, rfl⟩ fun σ' H2 z => r1 _ _ _ z q
end
end Tx
set_option Elab.async false
set_option linter.all false
set_option maxRecDepth 100000
set_option maxHeartbeats 8000000
namespace Tx
open PySem PySem.Spec PyProof.Rows L2 Cm
theorem bodyNode : defBody sNode = [stN 0, stN 1, stN 2, stN 3, stN 4, stN 5, stN 6] := rfl
theorem HoR.never {X : Cx} {p : L2.St → Hp → Prop} {R : VK} (hp : ∀ σ H, ¬ p σ H) : ∀ sts : List Stmt, HoR X sts p R
  | [] => ⟨_, pss_nil, fun D σ H h => absurd h (hp σ H)⟩
  | st :: r => by
    obtain ⟨t, ht, h⟩ := HoR.never (X := X) (R := R) hp r
    exact ⟨_, pss_cons ps_never ht, fun D σ H h => absurd h (hp σ H)⟩
theorem nv_succ (g : Nat) (t : Nd) (n : Nat) : nv (g + 1) t n = if 61 < n + 1 then none else match t with
    | .fil i => if wholeB i then some (.fil i, n + 1) else none
    | .lnk z => if pathB z then some (.lnk z, n + 1) else none
    | .dir ks => if ks.all fun p => nameB p.1 then (match nvs (nv g) (sortK ks) (n + 1) with
      | some (ks', m) => some (.dir ks', m)
      | none => none) else none := by
  cases t <;> rfl
section
variable {P : Program} {w : World} {K : PySem.W.Frag} {mg : Str → Option Value} {base : Heap} {f C : Addr} {fd : FuncData}
theorem ok_node (F : Fun K "node_value" "node_value" sNode f fd) (hm : mg "node_value" = some (.ref f)) (hb : Binds K fd ["thing", "depth", "met"] []) (B : Bi mg) (Cn : Co mg) (T : No K mg C)
    (W : Cl P w K mg base CX0 1 "is_whole" ["thing", "low", "high"] (spWhole K)) (N : Cl P w K mg base CX0 1 "is_name" ["thing"] (spName K)) (Pt : Cl P w K mg base CX0 2 "is_path" ["thing"] (spPath K)) :
    ∀ g, FnOk P w K mg base (L2.CX P w) (g + 3) f fd ["thing", "depth", "met"] (spNode C g)
  | 0 => by
    refine F.okX scNode (fun vs H Q E h => ?_) (fun cdv A outer s H vs Q E hr h => ?_)
    · obtain ⟨v, t, m, ms, rfl, _⟩ := h
      rfl
    · obtain ⟨v, t, m, ms, rfl, hv, hm, hl, _, hE⟩ := h
      rw [bodyNode]
      have q : HoR (XN P w K mg base f cdv A outer s H E) [stN 0, stN 1, stN 2, stN 3, stN 4, stN 5, stN 6] (fun σ H' => σ = sl v 9 m ∧ H' = H) Q := HoR.cons (hN0 hm hl) (HoR.cons (hN1 Cn T (fun _ => hE rfl _ But.upd ⟨_, upd_same⟩)) (HoR.never (fun σ H' h => by
        obtain ⟨_, _, h8⟩ := h
        omega) _))
      obtain ⟨t, ht, hq⟩ := q
      exact ⟨t, ht, hq _ _ _ ⟨rfl, rfl⟩ fun _ _ h => h⟩
  | g + 1 => by
    have ih := ok_node F hm hb B Cn T W N Pt g
    have NX : Cl P w K mg base (L2.CX P w) (g + 3) "node_value" ["thing", "depth", "met"] (spNode C g) := ⟨f, fd, ih, hm, F.kp, hb⟩
    refine F.okX scNode (fun vs H Q E h => ?_) (fun cdv A outer s H vs Q E hr h => ?_)
    · obtain ⟨v, t, m, ms, rfl, _⟩ := h
      rfl
    · obtain ⟨v, t, m, ms, rfl, hv, hm, hl, hQ, hE⟩ := h
      rw [bodyNode]
      have hr' : Room (g + 3) (XN P w K mg base f cdv A outer s H E).A := hr
      have ed : (9 - ((g + 1 : Nat) : Int)) = 8 - (g : Int) := by omega
      rw [ed]
      obtain ⟨ms1, e1⟩ : ∃ ms1 : List V, ms1 = ms ++ [.int (8 - (g : Int))] := ⟨_, rfl⟩
      obtain ⟨H1, eH⟩ : ∃ H1, H1 = upd H m (.lst ms1) := ⟨_, rfl⟩
      have l1 : ms1.length = ms.length + 1 := by
        rw [e1, List.length_append]
        rfl
      have hm1 : H1 m = some (.lst ms1) := by rw [eH]; exact upd_same
      have b1 : But m H H1 := by rw [eH]; exact But.upd
      have hv1 : NdAt H1 v t := hv.mono (DKeep.but b1 hm (by intro _ z; cases z))
      have a0 := hN0 (P := P) (w := w) (K := K) (mg := mg) (base := base) (f := f) (cdv := cdv) (A := A) (outer := outer) (s := s) (H0 := H) (E := E) (v := v) (d := 8 - (g : Int)) hm hl
      rw [← e1, ← eH] at a0
      have a1 := hN1 (P := P) (w := w) (base := base) (f := f) (cdv := cdv) (A := A) (outer := outer) (s := s) (H0 := H) (E := E) (v := v) (d := 8 - (g : Int)) (m := m) (H := H1) Cn T (fun h => by omega)
      have a2 := hN2 (P := P) (w := w) (base := base) (f := f) (cdv := cdv) (A := A) (outer := outer) (s := s) (H0 := H) (E := E) (v := v) (d := 8 - (g : Int)) B Cn T hm1 (fun h => hE (by rw [nv_succ, if_pos (by omega)]) H1 b1 ⟨_, hm1⟩)
      by_cases h61 : 61 < ms.length + 1
      · obtain ⟨t', ht, hq⟩ := HoR.cons a0 (HoR.cons a1 (HoR.cons a2 (HoR.never (R := Q) (fun σ H' h => by
          obtain ⟨_, _, h8⟩ := h
          omega) [stN 3, stN 4, stN 5, stN 6])))
        exact ⟨t', ht, hq _ _ _ ⟨rfl, rfl⟩ fun _ _ h => h⟩
      · rw [nv_succ, if_neg h61] at hQ hE
        cases t with
        | dir ks =>
          obtain ⟨a, rfl⟩ : ∃ a, v = .ref a := by
            cases hv
            exact ⟨_, rfl⟩
          dsimp only at hQ hE
          have a3 := hN3d (cdv := cdv) (A := A) (outer := outer) (s := s) (H0 := H) (E := E) (f := f) (x := ms1.length) B T Q N NX hr' (by omega) hv1 hm1 (by omega) (fun hall ks' n e D ms' H' hN hM hL hB => by
            rw [if_pos hall] at hQ
            rw [l1] at e
            rw [e] at hQ
            exact hQ (.dir ks') n rfl _ ms' H' (hN.mono (newIn_part (fun b o eb => by
              by_cases c : b = m
              · exact ⟨_, by rw [c]; exact hm1⟩
              · exact ⟨_, b1 _ _ c eb⟩) fun _ _ _ e => e)) hM hL (b1.trans hB)) (fun c H' hB hM => by
            refine hE ?_ H' (b1.trans hB) hM
            rcases c with c | c
            · rw [if_neg (by rw [c]; simp)]
            · rw [l1] at c
              rw [c]
              split <;> rfl)
          obtain ⟨t', ht, hq⟩ := HoR.cons a0 (HoR.cons a1 (HoR.cons a2 a3))
          exact ⟨t', ht, hq _ _ _ ⟨rfl, rfl⟩ fun _ _ h => h⟩
        | fil i =>
          obtain rfl : v = .int i := by
            cases hv
            rfl
          dsimp only at hQ hE
          have a3 := hN3n (P := P) (w := w) (K := K) (mg := mg) (base := base) (f := f) (cdv := cdv) (A := A) (outer := outer) (s := s) (H0 := H) (E := E) (d := 8 - (g : Int)) (m := m) (n := ms1.length) B hv1 (fun _ z => by cases z)
          have a4 := hN4 (cdv := cdv) (A := A) (outer := outer) (s := s) (H0 := H) (E := E) (f := f) (H := H1) (v := .int i) (t := .fil i) (d := 8 - (g : Int)) (m := m) B T W Pt (hr'.mono (by omega)) Q (fun i' z => by
            cases z
            refine ⟨rfl, fun H' sm => ?_⟩
            by_cases c : wholeB i = true
            · rw [if_pos c]
              rw [if_pos c] at hQ
              exact hQ _ _ rfl _ ms1 H' (.fil i) (sm _ _ hm1) l1 (b1.trans (Same.but m sm))
            · rw [if_neg c]
              rw [if_neg c] at hE
              exact hE rfl H' (b1.trans (Same.but m sm)) ⟨_, sm _ _ hm1⟩) (fun z h => by cases h) (fun _ z => by cases z)
          obtain ⟨t', ht, hq⟩ := HoR.cons a0 (HoR.cons a1 (HoR.cons a2 (HoR.cons a3 a4)))
          exact ⟨t', ht, hq _ _ _ ⟨rfl, rfl⟩ fun _ _ h => h⟩
        | lnk z =>
          obtain ⟨rfl, hz⟩ : v = .str z ∧ z.length ≤ 100000 := by
            cases hv with
            | lnk _ hz => exact ⟨rfl, hz⟩
          dsimp only at hQ hE
          have a3 := hN3n (P := P) (w := w) (K := K) (mg := mg) (base := base) (f := f) (cdv := cdv) (A := A) (outer := outer) (s := s) (H0 := H) (E := E) (d := 8 - (g : Int)) (m := m) (n := ms1.length) B hv1 (fun _ z => by cases z)
          have a4 := hN4 (cdv := cdv) (A := A) (outer := outer) (s := s) (H0 := H) (E := E) (f := f) (H := H1) (v := .str z) (t := .lnk z) (d := 8 - (g : Int)) (m := m) B T W Pt (hr'.mono (by omega)) Q (fun i' z => by cases z) (fun z' h => by
            cases h
            refine ⟨rfl, hz, fun H' sm => ?_⟩
            by_cases c : pathB z = true
            · rw [if_pos c]
              rw [if_pos c] at hQ
              exact hQ _ _ rfl _ ms1 H' (.lnk z hz) (sm _ _ hm1) l1 (b1.trans (Same.but m sm))
            · rw [if_neg c]
              rw [if_neg c] at hE
              exact hE rfl H' (b1.trans (Same.but m sm)) ⟨_, sm _ _ hm1⟩) (fun _ z => by cases z)
          obtain ⟨t', ht, hq⟩ := HoR.cons a0 (HoR.cons a1 (HoR.cons a2 (HoR.cons a3 a4)))
          exact ⟨t', ht, hq _ _ _ ⟨rfl, rfl⟩ fun _ _ h => h⟩
end
end Tx
set_option Elab.async false
set_option linter.all false
set_option maxRecDepth 100000
set_option maxHeartbeats 4000000
namespace Tx
open PySem PySem.Spec PyProof.Rows L2 Cm
/-! ### nodes by their paths -/
mutual
def sz : Nd → Nat
  | .fil _ => 1
  | .lnk _ => 1
  | .dir ks => 1 + szs ks
def szs : List (Str × Nd) → Nat
  | [] => 0
  | (_, t) :: r => sz t + szs r
end
def kidL : List (Str × Nd) → Str → Option Nd
  | [], _ => none
  | (k, t) :: r, n => if k = n then some t else kidL r n
def kid : Nd → Str → Option Nd
  | .dir ks, n => kidL ks n
  | _, _ => none
def sub : Nd → List Str → Option Nd
  | t, [] => some t
  | t, n :: p => match kid t n with
    | some u => sub u p
    | none => none
theorem sub_append (t : Nd) : ∀ (p q : List Str), sub t (p ++ q) = match sub t p with | some u => sub u q | none => none
  | [], q => rfl
  | n :: p, q => by
    show (match kid t n with | some u => sub u (p ++ q) | none => none) = match (match kid t n with | some u => sub u p | none => none) with | some u => sub u q | none => none
    cases kid t n with
    | none => rfl
    | some u => exact sub_append u p q
theorem sub_snoc {t u : Nd} {p : List Str} {n : Str} (h : sub t p = some u) : sub t (p ++ [n]) = kid u n := by
  rw [sub_append, h]
  show (match kid u n with | some v => sub v [] | none => none) = kid u n
  cases kid u n <;> rfl
theorem kidL_mem : ∀ {ks : List (Str × Nd)} {n : Str} {t : Nd}, kidL ks n = some t → ∃ i : Nat, ks[i]? = some (n, t)
  | [], n, t, h => by cases h
  | (k, u) :: r, n, t, h => by
    unfold kidL at h
    split at h
    · rename_i e
      cases h
      exact ⟨0, by rw [e]; rfl⟩
    · obtain ⟨i, hi⟩ := kidL_mem h
      exact ⟨i + 1, hi⟩
theorem kidL_at : ∀ {ks : List (Str × Nd)} {i : Nat} {n : Str} {t : Nd}, (ks.map (·.1)).Nodup → ks[i]? = some (n, t) → kidL ks n = some t
  | [], i, n, t, _, h => by simp at h
  | (k, u) :: r, 0, n, t, hn, h => by
    have e : (k, u) = (n, t) := Option.some.inj h
    cases e
    unfold kidL
    rw [if_pos rfl]
  | (k, u) :: r, i + 1, n, t, hn, h => by
    have hn' : (k :: r.map (·.1)).Nodup := hn
    obtain ⟨h1, h2⟩ := List.nodup_cons.mp hn'
    have hr : r[i]? = some (n, t) := h
    unfold kidL
    rw [if_neg (fun z => h1 (by rw [z]; exact List.mem_map.mpr ⟨(n, t), List.mem_of_getElem? hr, rfl⟩))]
    exact kidL_at h2 hr
theorem szs_drop {ks : List (Str × Nd)} : ∀ {i : Nat} {p : Str × Nd}, ks[i]? = some p → szs (ks.drop i) = sz p.2 + szs (ks.drop (i + 1)) := by
  induction ks with
  | nil =>
    intro i p h
    simp at h
  | cons q r ih =>
    intro i p h
    cases i with
    | zero =>
      have e : q = p := Option.some.inj h
      subst e
      obtain ⟨a, b⟩ := q
      rfl
    | succ i => exact ih (i := i) h
/-- the weight below a path -/
def cw (t : Nd) (p : List Str) : Nat := match sub t p with
  | some (.dir ks) => szs ks
  | _ => 0
theorem sz_cw {t u : Nd} {p : List Str} (h : sub t p = some u) : sz u = cw t p + 1 := by
  unfold cw
  rw [h]
  cases u with
  | fil i => rfl
  | lnk z => rfl
  | dir ks =>
    show 1 + szs ks = szs ks + 1
    omega
mutual
theorem nv_sz : ∀ (g : Nat) (t : Nd) (n : Nat) (t' : Nd) (m : Nat), nv g t n = some (t', m) → m = n + sz t'
  | 0, t, n, t', m, h => by cases h
  | g + 1, t, n, t', m, h => by
    rw [nv_succ] at h
    split at h
    · cases h
    · cases t with
      | fil i =>
        dsimp only at h
        split at h
        · cases h
          rfl
        · cases h
      | lnk z =>
        dsimp only at h
        split at h
        · cases h
          rfl
        · cases h
      | dir ks =>
        dsimp only at h
        split at h
        · cases e : nvs (nv g) (sortK ks) (n + 1) with
          | none =>
            rw [e] at h
            cases h
          | some q =>
            obtain ⟨r, m1⟩ := q
            rw [e] at h
            cases h
            have z := nvs_sz g _ _ _ _ e
            show m = n + (1 + szs r)
            omega
        · cases h
theorem nvs_sz : ∀ (g : Nat) (S : List (Str × Nd)) (n : Nat) (r : List (Str × Nd)) (m : Nat), nvs (nv g) S n = some (r, m) → m = n + szs r
  | g, [], n, r, m, h => by
    cases h
    rfl
  | g, p :: S, n, r, m, h => by
    rw [nvs_cons] at h
    cases e : nv g p.2 n with
    | none =>
      rw [e] at h
      cases h
    | some q =>
      obtain ⟨t, m1⟩ := q
      rw [e] at h
      dsimp only at h
      cases e2 : nvs (nv g) S m1 with
      | none =>
        rw [e2] at h
        cases h
      | some q2 =>
        obtain ⟨r', m'⟩ := q2
        rw [e2] at h
        cases h
        have z1 := nv_sz g _ _ _ _ e
        have z2 := nvs_sz g _ _ _ _ e2
        show m = n + (sz t + szs r')
        omega
end
/-! ### the flat dict of a tree -/
def pk (p : List Str) : List Key := p.map Sum.inr
theorem pk_kV (p : List Str) : (pk p).map kV = p.map V.str := by
  unfold pk
  rw [List.map_map]
  rfl
theorem pk_inj : ∀ {p q : List Str}, pk p = pk q → p = q
  | [], [], _ => rfl
  | [], _ :: _, h => by cases h
  | _ :: _, [], h => by cases h
  | a :: p, b :: q, h => by
    have h' : (Sum.inr a : Key) :: pk p = Sum.inr b :: pk q := h
    injection h' with h1 h2
    rw [Sum.inr.inj h1, pk_inj h2]
def wsum (t : Nd) : List (Addr × List Str) → Nat
  | [] => 0
  | q :: r => cw t q.2 + wsum t r
theorem wsum_append (t : Nd) : ∀ a b : List (Addr × List Str), wsum t (a ++ b) = wsum t a + wsum t b
  | [], b => by
    show wsum t b = 0 + wsum t b
    omega
  | q :: a, b => by
    show cw t q.2 + wsum t (a ++ b) = cw t q.2 + wsum t a + wsum t b
    rw [wsum_append t a b]
    omega
/-- in the midst: HR the heap of the nodes, todo the paths whose names are still to come, now the path whose names come now with those that are left -/
structure Fl (HR : Hp) (t : Nd) (kvs : List (List Key × V)) (todo : List (Addr × List Str)) (now : List Str) (left : List (Str × Nd)) (M : Nat) : Prop where
  ok : ∀ k v, valV kvs k = some v → ∃ p u, k = pk p ∧ sub t p = some u ∧ NdAt HR v u
  td : ∀ q ∈ todo, ∃ v, valV kvs (pk q.2) = some v
  all : ∀ p u, sub t p = some u → (∃ v, valV kvs (pk p) = some v) ∨ (∃ q ∈ todo, ∃ r, r ≠ [] ∧ p = q.2 ++ r) ∨ ∃ e ∈ left, ∃ r, p = now ++ e.1 :: r
  nd : (kvs.map (·.1)).Nodup
  wt : kvs.length + wsum t todo + szs left ≤ 61
  ms : wsum t todo + todo.length + szs left ≤ M
theorem nd_put {kvs : List (List Key × V)} {k : List Key} (v : V) (hn : (kvs.map (·.1)).Nodup) : ((putK kvs k v).map (·.1)).Nodup := by
  cases e : valV kvs k with
  | none => exact nd_putK v hn e
  | some w =>
    have z : (putK kvs k v).map (·.1) = kvs.map (·.1) := by
      unfold putK
      split
      · rw [List.map_map]
        refine List.map_congr_left fun x _ => ?_
        show (if x.1 = k then (x.1, v) else x).1 = x.1
        split <;> rfl
      · rename_i c
        exfalso
        apply c
        unfold valV at e
        cases e2 : kvs.find? (fun q => decide (q.1 = k)) with
        | none =>
          rw [e2] at e
          cases e
        | some q => exact List.any_eq_true.mpr ⟨q, List.mem_of_find?_eq_some e2, (by have z := List.find?_some e2; exact z)⟩
    rw [z]
    exact hn
theorem Fl.start {HR : Hp} {t : Nd} {v : V} {b : Addr} (h : NdAt HR v t) (hz : sz t ≤ 61) : Fl HR t [([], v)] [(b, [])] [] [] (sz t) where
  ok := fun k w e => by
    by_cases c : ([] : List Key) = k
    · rw [valV_pos c] at e
      exact ⟨[], t, c.symm, rfl, Option.some.inj e ▸ h⟩
    · rw [valV_neg c] at e
      cases e
  td := fun q hq => by
    rw [List.mem_singleton] at hq
    subst hq
    exact ⟨v, valV_pos rfl⟩
  all := fun p u e => by
    cases p with
    | nil => exact .inl ⟨v, valV_pos rfl⟩
    | cons n r => exact .inr (.inl ⟨(b, []), List.mem_singleton.mpr rfl, n :: r, by simp, rfl⟩)
  nd := by simp
  wt := by
    have e : sz t = cw t [] + 1 := sz_cw rfl
    show 1 + (cw t [] + 0) + 0 ≤ 61
    omega
  ms := by
    have e : sz t = cw t [] + 1 := sz_cw rfl
    show cw t [] + 0 + 1 + 0 ≤ sz t
    omega
theorem Fl.pop {HR : Hp} {t u : Nd} {kvs : List (List Key × V)} {r : List (Addr × List Str)} {q : Addr × List Str} {now : List Str} {M : Nat} (h : Fl HR t kvs (r ++ [q]) now [] M) (hu : sub t q.2 = some u) (ks : List (Str × Nd)) (hk : u = .dir ks ∨ (ks = [] ∧ ∀ ks, u ≠ .dir ks)) : Fl HR t kvs r q.2 ks (M - 1) ∧ 0 < M where
  left := {
    ok := h.ok
    td := fun p hp => h.td p (List.mem_append_left _ hp)
    all := fun p w e => by
      rcases h.all p w e with c | ⟨q1, h1, r1, n1, e1⟩ | ⟨x, hx, _⟩
      · exact .inl c
      · rcases List.mem_append.mp h1 with h2 | h2
        · exact .inr (.inl ⟨q1, h2, r1, n1, e1⟩)
        · rw [List.mem_singleton] at h2
          subst h2
          cases r1 with
          | nil => exact absurd rfl n1
          | cons n r1 =>
            rw [e1, sub_append, hu] at e
            have e2 : (match kid u n with | some v => sub v r1 | none => none) = some w := e
            rcases hk with hk | ⟨_, hk⟩
            · subst hk
              have e3 : (match kidL ks n with | some v => sub v r1 | none => none) = some w := e2
              cases ek : kidL ks n with
              | none =>
                rw [ek] at e3
                cases e3
              | some v =>
                obtain ⟨i, hi⟩ := kidL_mem ek
                exact .inr (.inr ⟨(n, v), List.mem_of_getElem? hi, r1, e1⟩)
            · exfalso
              cases u with
              | fil i => cases e2
              | lnk z => cases e2
              | dir ks' => exact hk ks' rfl
      · cases hx
    nd := h.nd
    wt := by
      have z := h.wt
      rw [wsum_append] at z
      have z2 : wsum t [q] = cw t q.2 + 0 := rfl
      have z3 : szs ([] : List (Str × Nd)) = 0 := rfl
      have e := sz_cw hu
      rcases hk with hk | ⟨hk, _⟩
      · subst hk
        have e2 : sz (.dir ks) = 1 + szs ks := rfl
        omega
      · subst hk
        omega
    ms := by
      have z := h.ms
      rw [wsum_append, List.length_append] at z
      have z2 : wsum t [q] = cw t q.2 + 0 := rfl
      have z3 : szs ([] : List (Str × Nd)) = 0 := rfl
      have z4 : [q].length = 1 := rfl
      have e := sz_cw hu
      rcases hk with hk | ⟨hk, _⟩
      · subst hk
        have e2 : sz (.dir ks) = 1 + szs ks := rfl
        omega
      · subst hk
        omega }
  right := by
    have z := h.ms
    rw [List.length_append] at z
    have z4 : [q].length = 1 := rfl
    omega
theorem Fl.step {HR : Hp} {t : Nd} {kvs : List (List Key × V)} {todo : List (Addr × List Str)} {now : List Str} {e : Str × Nd} {left : List (Str × Nd)} {M : Nat} (h : Fl HR t kvs todo now (e :: left) M) {v : V} (b : Addr) (hv : NdAt HR v e.2) (hu : sub t (now ++ [e.1]) = some e.2) :
    Fl HR t (putK kvs (pk (now ++ [e.1])) v) (todo ++ [(b, now ++ [e.1])]) now left M where
  ok := fun k w hw => by
    rw [valV_put] at hw
    split at hw
    · rename_i c
      exact ⟨_, _, c, hu, Option.some.inj hw ▸ hv⟩
    · exact h.ok k w hw
  td := fun q hq => by
    rw [valV_put]
    rcases List.mem_append.mp hq with h1 | h1
    · obtain ⟨w, hw⟩ := h.td q h1
      split
      · exact ⟨v, rfl⟩
      · exact ⟨w, hw⟩
    · rw [List.mem_singleton] at h1
      subst h1
      rw [if_pos rfl]
      exact ⟨v, rfl⟩
  all := fun p u e0 => by
    rcases h.all p u e0 with ⟨w, c⟩ | ⟨q1, h1, r1, n1, e1⟩ | ⟨x, hx, r, er⟩
    · refine .inl ?_
      rw [valV_put]
      split
      · exact ⟨v, rfl⟩
      · exact ⟨w, c⟩
    · exact .inr (.inl ⟨q1, List.mem_append_left _ h1, r1, n1, e1⟩)
    · rcases List.mem_cons.mp hx with c | c
      · subst c
        cases r with
        | nil =>
          refine .inl ?_
          rw [valV_put, er, if_pos rfl]
          exact ⟨v, rfl⟩
        | cons n r =>
          refine .inr (.inl ⟨(b, now ++ [x.1]), List.mem_append_right _ (List.mem_singleton.mpr rfl), n :: r, by simp, ?_⟩)
          rw [er]
          simp
      · exact .inr (.inr ⟨x, c, r, er⟩)
  nd := nd_put v h.nd
  wt := by
    have z := h.wt
    have z1 := DSub.putK_len kvs (pk (now ++ [e.1])) v
    rw [wsum_append]
    have z2 : wsum t [(b, now ++ [e.1])] = cw t (now ++ [e.1]) + 0 := rfl
    have z3 : szs (e :: left) = sz e.2 + szs left := by
      obtain ⟨a, b⟩ := e
      rfl
    have z4 := sz_cw hu
    omega
  ms := by
    have z := h.ms
    rw [wsum_append, List.length_append]
    have z2 : wsum t [(b, now ++ [e.1])] = cw t (now ++ [e.1]) + 0 := rfl
    have z5 : [(b, now ++ [e.1])].length = 1 := rfl
    have z3 : szs (e :: left) = sz e.2 + szs left := by
      obtain ⟨a, b⟩ := e
      rfl
    have z4 := sz_cw hu
    omega
/-- a tree's object: its nodes by their paths -/
structure FlatD (HR : Hp) (t : Nd) (kvs : List (List Key × V)) : Prop where
  ok : ∀ k v, valV kvs k = some v → ∃ p u, k = pk p ∧ sub t p = some u ∧ NdAt HR v u
  all : ∀ p u, sub t p = some u → ∃ v, valV kvs (pk p) = some v
  nd : (kvs.map (·.1)).Nodup
  ln : kvs.length ≤ 61
theorem Fl.flat {HR : Hp} {t : Nd} {kvs : List (List Key × V)} {now : List Str} {M : Nat} (h : Fl HR t kvs [] now [] M) : FlatD HR t kvs where
  ok := h.ok
  all := fun p u e => by
    rcases h.all p u e with c | ⟨q1, h1, _⟩ | ⟨x, hx, _⟩
    · exact c
    · cases h1
    · cases hx
  nd := h.nd
  ln := by
    have := h.wt
    omega
theorem FlatD.get {HR : Hp} {t u : Nd} {kvs : List (List Key × V)} {p : List Str} (h : FlatD HR t kvs) (e : sub t p = some u) : ∃ v, valV kvs (pk p) = some v ∧ NdAt HR v u := by
  obtain ⟨v, hv⟩ := h.all p u e
  obtain ⟨p', u', ep, eu, hn⟩ := h.ok _ v hv
  cases pk_inj ep
  rw [e] at eu
  cases eu
  exact ⟨v, hv, hn⟩
theorem FlatD.no {HR : Hp} {t : Nd} {kvs : List (List Key × V)} {p : List Str} (h : FlatD HR t kvs) (e : sub t p = none) : valV kvs (pk p) = none := by
  cases hv : valV kvs (pk p) with
  | none => rfl
  | some v =>
    obtain ⟨p', u', ep, eu, hn⟩ := h.ok _ v hv
    cases pk_inj ep
    rw [e] at eu
    cases eu
theorem FlatD.mono {H H' : Hp} {t : Nd} {kvs : List (List Key × V)} (h : FlatD H t kvs) (k : DKeep H H') : FlatD H' t kvs := ⟨fun x v e => let ⟨p, u, a, b, c⟩ := h.ok x v e; ⟨p, u, a, b, c.mono k⟩, h.all, h.nd, h.ln⟩
end Tx
set_option Elab.async false
set_option linter.all false
set_option maxRecDepth 100000
set_option maxHeartbeats 8000000
namespace Tx
open PySem PySem.Spec PyProof.Rows L2 Cm
abbrev sInit : Stmt := inClass sTree 0
abbrev nI : List Str := ["self", "top", "todo", "at", "name"]
theorem scInit : FnScope nI ["self", "top"] (defScope sInit) := ⟨rfl, rfl, rfl, by decide +kernel, rfl, by decide +kernel, by decide +kernel⟩
def tI (i : Nat) : Stmt := (defBody sInit).getD i (.Pass ⟨0, 0, 0, 0⟩)
theorem bodyInit : defBody sInit = [tI 0, tI 1, tI 2, tI 3] := rfl
def whB (s : Stmt) (i : Nat) : Stmt := match s with | .While _ b _ _ => b.getD i (.Pass ⟨0, 0, 0, 0⟩) | _ => .Pass ⟨0, 0, 0, 0⟩
def ifB (s : Stmt) (i : Nat) : Stmt := match s with | .If _ b _ _ => b.getD i (.Pass ⟨0, 0, 0, 0⟩) | _ => .Pass ⟨0, 0, 0, 0⟩
def foB (s : Stmt) (i : Nat) : Stmt := match s with | .For _ _ b _ _ => b.getD i (.Pass ⟨0, 0, 0, 0⟩) | _ => .Pass ⟨0, 0, 0, 0⟩
def tIf : Stmt := whB (tI 3) 1
def tFo : Stmt := ifB tIf 0
/-- the class Tree -/
structure Tr (K : PySem.W.Frag) (mg : Str → Option Value) (C : Addr) : Prop where
  cl : Cls K C
  nN : NoAttr K C "nodes"
  mgC : mg "Tree" = some (.ref C)
def fl (N : Addr) : List (Str × V) := putF "nodes" (.ref N) []
theorem fl_nodes (N : Addr) : (fl N).lookup ("nodes" : Str) = some (.ref N) := by
  unfold fl
  rw [lookup_putF, if_pos rfl]
theorem fl_no (N : Addr) {m : Str} (h : ¬ m = "nodes") : (fl N).lookup m = none := by
  unfold fl
  rw [lookup_putF, if_neg h]
  rfl
/-- t + (y,) -/
theorem cat1 {K : PySem.W.Frag} {a p : Addr} {xs : List V} {y : V} {H : Hp} {Q : VK} (ha : H a = some (.tup xs)) (hl : xs.length ≤ 100) (hp : H p = none) (q : ∀ b H2, Same H H2 → H2 b = some (.tup (xs ++ [y])) → Q (.ref b) H2) :
    rCatA K (.ref a) (.ref p) (upd H p (.tup [y])) Q := by
  have sm : Same H (upd H p (.tup [y])) := same_new hp
  refine ⟨a, p, xs, [y], rfl, rfl, SqT.of (sm _ _ ha), SqT.of upd_same, Nat.le_of_lt (small1000 (by show xs.length + 1 ≤ 1000; omega)), fun e => q p _ sm (by rw [e]; exact upd_same), fun _ e => (nomatch e), fun _ _ p2 hp2 => q p2 _ (fun b o e => ?_) upd_same⟩
  rw [upd_ne (ne_of_none (sm _ _ e) hp2)]
  exact sm _ _ e
theorem szs_mem : ∀ {ks : List (Str × Nd)} {i : Nat} {p : Str × Nd}, ks[i]? = some p → sz p.2 ≤ szs ks
  | [], i, p, h => by simp at h
  | (k, u) :: r, 0, p, h => by
    have e : (k, u) = p := Option.some.inj h
    subst e
    show sz u ≤ sz u + szs r
    omega
  | (k, u) :: r, i + 1, p, h => by
    have z := szs_mem (ks := r) (i := i) h
    show sz p.2 ≤ sz u + szs r
    omega
theorem sub_len : ∀ {p : List Str} {t u : Nd}, sub t p = some u → p.length + sz u ≤ sz t
  | [], t, u, h => by
    cases h
    show 0 + sz t ≤ sz t
    omega
  | n :: p, t, u, h => by
    have h' : (match kid t n with | some u => sub u p | none => none) = some u := h
    cases e : kid t n with
    | none =>
      rw [e] at h'
      cases h'
    | some v =>
      rw [e] at h'
      have ih := sub_len (p := p) h'
      cases t with
      | fil i => cases e
      | lnk z => cases e
      | dir ks =>
        obtain ⟨i, hi⟩ := kidL_mem (show kidL ks n = some v from e)
        have z := szs_mem hi
        have z2 : sz (.dir ks) = 1 + szs ks := rfl
        show p.length + 1 + sz u ≤ sz (.dir ks)
        dsimp only at z
        omega
/-- the heap in __init__'s loops: H at the entry, HR the new nodes -/
structure LS (H HR : Hp) (CT x N L dx : Addr) (t : Nd) (H' : Hp) (kvs : List (List Key × V)) (todo : List (Addr × List Str)) : Prop where
  ox : H' x = some (.ins CT dx (fl N))
  on : H' N = some (.dT kvs)
  ol : H' L = some (.lst (todo.map fun q => V.ref q.1))
  ot : ∀ q ∈ todo, H' q.1 = some (.tup (q.2.map V.str))
  kp : But x H H'
/-- what never changes -/
structure LC (H HR : Hp) (x N L : Addr) (t : Nd) : Prop where
  hx : ∃ o, H x = some o
  hN : H N = none
  hL : H L = none
  hR : ∀ b o, HR b = some o → H b = none
  nR : ∀ kv, HR N ≠ some (.dK kv)
  lR : ∀ kv, HR L ≠ some (.dK kv)
  sz : sz t ≤ 61
section
variable {P : Program} {w : World} {K : PySem.W.Frag} {mg : Str → Option Value} {base : Heap} {f C CT : Addr} {cdv : Value} {A : Around} {outer : List Env} {s : Shared} {H0 : Hp} {E : XK}
abbrev XI (P : Program) (w : World) (K : PySem.W.Frag) (mg : Str → Option Value) (base : Heap) (f : Addr) (cdv : Value) (A : Around) (outer : List Env) (s : Shared) (H0 : Hp) (E : XK) : Cx := cxOf (L2.CX P w) P w K mg base nI "Tree.__init__" (defScope sInit) f cdv A outer s H0 E
def sI (x L : Addr) (v : V) (a n : Option V) : L2.St := [some (.ref x), some v, some (.ref L), a, n]
/-- for name in self.nodes[at]: both lines -/
theorem hFB (T : Tr K mg CT) (hr : Room 1 (XI P w K mg base f cdv A outer s H0 E).A) :
    ∃ tb, PSs (XI P w K mg base f cdv A outer s H0 E) [foB tFo 0, foB tFo 1] tb ∧ ∀ (D : Ends) {H HR H1 : Hp} {x N L dx d a : Addr} {v : V} {t : Nd} {now : List Str} {od : Obj} {kvd : List (Key × V)} {u : V} {e : Str × Nd} {left : List (Str × Nd)} {M : Nat} {kvs : List (List Key × V)} {todo : List (Addr × List Str)}, LC H HR x N L t → M ≤ 61 →
      valV kvd (Sum.inr e.1 : Key) = some u → NdAt HR u e.2 → sub t (now ++ [e.1]) = some e.2 → LS H HR CT x N L dx t H1 kvs todo → Fl HR t kvs todo now (e :: left) M → H1 d = some (.frz od (.dK kvd)) → H1 a = some (.tup (now.map V.str)) → valV kvs (pk now) = some (.ref d) →
      (∀ b kv, b ≠ d → HR b = some (.dK kv) → H1 b = some (.dK kv)) → (∀ H' kvs todo, LS H HR CT x N L dx t H' kvs todo → Fl HR t kvs todo now left M → H' d = some (.frz od (.dK kvd)) → H' a = some (.tup (now.map V.str)) → valV kvs (pk now) = some (.ref d) → (∀ b kv, b ≠ d → HR b = some (.dK kv) → H' b = some (.dK kv)) → D.nx (sI x L v (some (.ref a)) (some (.str e.1))) H') →
      tb D (sI x L v (some (.ref a)) (some (.str e.1))) H1 := by
  have hu1 : (XI P w K mg base f cdv A outer s H0 E).A.units + 1 < cLine := by
    have := hr.units
    omega
  refine ⟨_, pss_cons (ps_dput hu1 (pe_fld (pv 0) rfl) (pe_op op_catA (pv 3) (pe_tup (pa_cons (pv 4) pa_nil))) (pe_dget hu1 (pe_dget hu1 (pe_fld (pv 0) rfl) (pv 3) (fun _ _ => rfl)) (pv 4) (fun _ _ => rfl)) rfl)
    (pss_one (ps_expr (pe_bm PySem.F.plainAttrs_list PySem.F.slot_list_append PySem.F.type_list_append mt_append (pv 2) (pa_cons (pe_op op_catA (pv 3) (pe_tup (pa_cons (pv 4) pa_nil))) pa_nil)))), ?_⟩
  intro D H HR H1 x N L dx d a v t now od kvd u e left M kvs todo Lc hM hg hv hu S F hd ha hn hk q
  have hnl : now.length ≤ 61 := by
    have z1 := sub_len hu
    rw [List.length_append] at z1
    have := Lc.sz
    omega
  have g1 : DGet H1 N (.ref a) (some (.ref d)) := by
    have z := DGet.t (k := pk now) S.on (by rw [pk_kV]; exact ha)
    rw [hn] at z
    exact z
  have g2 : DGet H1 d (.str e.1) (some u) := by
    refine .inl ⟨kvd, Sum.inr e.1, .inr ⟨od, hd⟩, rfl, hg.symm⟩
  refine ⟨_, rfl, x, CT, dx, fl N, .ref N, rfl, S.ox, T.cl, T.nN, fl_nodes N, _, rfl, N, .ref d, rfl, g1, _, rfl, d, u, rfl, g2, ?_⟩
  refine ⟨_, rfl, x, CT, dx, fl N, .ref N, rfl, S.ox, T.cl, T.nN, fl_nodes N, _, rfl, _, rfl, (by show 1 ≤ sizeLine; decide +kernel), fun p hp => ?_⟩
  refine cat1 ha (by rw [List.length_map]; omega) hp fun b H2 s2 hb => ?_
  have hb' : H2 b = some (.tup ((pk (now ++ [e.1])).map kV)) := by
    rw [pk_kV, List.map_append]
    exact hb
  have hkl : kvs.length ≤ 61 := by
    have := F.wt
    omega
  refine ⟨N, _, rfl, DPut.t (s2 _ _ S.on) hb' (small1000 (by omega)), ?_⟩
  have nNL : N ≠ L := ne_of S.on S.ol (by intro z; cases z)
  have nNx : N ≠ x := ne_of S.on S.ox (by intro z; cases z)
  have nLx : L ≠ x := ne_of S.ol S.ox (by intro z; cases z)
  have naN : a ≠ N := ne_of ha S.on (by intro z; cases z)
  have naL : a ≠ L := ne_of ha S.ol (by intro z; cases z)
  have ndN : d ≠ N := ne_of hd S.on (by intro z; cases z)
  have ndL : d ≠ L := ne_of hd S.ol (by intro z; cases z)
  obtain ⟨H3, e3⟩ : ∃ H3, H3 = upd H2 N (.dT (putK kvs (pk (now ++ [e.1])) u)) := ⟨_, rfl⟩
  rw [← e3]
  have st3 : ∀ b o, H1 b = some o → b ≠ N → H3 b = some o := fun b o h n => by
    rw [e3, upd_ne n]
    exact s2 _ _ h
  have hL3 : H3 L = some (.lst (todo.map fun q => V.ref q.1)) := st3 _ _ S.ol nNL.symm
  have hN3 : H3 N = some (.dT (putK kvs (pk (now ++ [e.1])) u)) := by rw [e3]; exact upd_same
  have htl : todo.length ≤ 200 := by
    have := F.ms
    omega
  refine ⟨_, rfl, .inl ⟨rfl, _, SqL.of hL3⟩, _, rfl, _, rfl, (by show 1 ≤ sizeLine; decide +kernel), fun p3 hp3 => ?_⟩
  refine cat1 (st3 _ _ ha naN) (by rw [List.length_map]; omega) hp3 fun b2 H4 s4 hb2 => ?_
  refine ⟨L, _, _, rfl, rfl, s4 _ _ hL3, small1000 (by rw [List.length_map]; omega), ?_⟩
  obtain ⟨H5, e5⟩ : ∃ H5, H5 = upd H4 L (.lst ((todo.map fun q => V.ref q.1) ++ [V.ref b2])) := ⟨_, rfl⟩
  have st5 : ∀ b o, H1 b = some o → b ≠ N → b ≠ L → H5 b = some o := fun b o h n n2 => by
    rw [e5, upd_ne n2]
    exact s4 _ _ (st3 b o h n)
  rw [← e5]
  have b2L : b2 ≠ L := ne_of hb2 (s4 _ _ hL3) (by intro z; cases z)
  refine q H5 _ (todo ++ [(b2, now ++ [e.1])]) ⟨st5 _ _ S.ox nNx.symm nLx.symm, ?_, ?_, ?_, ?_⟩ (F.step b2 hv hu) (st5 _ _ hd ndN ndL) (st5 _ _ ha naN naL) ?_ ?_
  · rw [e5, upd_ne nNL]
    exact s4 _ _ hN3
  · rw [e5, upd_same, List.map_append]
    rfl
  · intro q0 hq0
    rcases List.mem_append.mp hq0 with h1 | h1
    · exact st5 _ _ (S.ot q0 h1) (ne_of (S.ot q0 h1) S.on (by intro z; cases z)) (ne_of (S.ot q0 h1) S.ol (by intro z; cases z))
    · rw [List.mem_singleton] at h1
      subst h1
      rw [e5]
      show upd H4 L _ b2 = some (.tup ((now ++ [e.1]).map V.str))
      rw [upd_ne b2L, hb2, List.map_append]
      rfl
  · intro b o nb hb0
    have nN : b ≠ N := fun z => by
      rw [z, Lc.hN] at hb0
      cases hb0
    have nL : b ≠ L := fun z => by
      rw [z, Lc.hL] at hb0
      cases hb0
    exact st5 _ _ (S.kp b o nb hb0) nN nL
  · rw [valV_put, if_neg, hn]
    intro z
    have z2 := pk_inj z
    have z3 := congrArg List.length z2
    rw [List.length_append] at z3
    have z4 : [e.1].length = 1 := rfl
    omega
  · intro b kv nb hb0
    exact st5 _ _ (hk b kv nb hb0) (fun z => Lc.nR kv (z ▸ hb0)) (fun z => Lc.lR kv (z ▸ hb0))
/-- the for loop -/
theorem hFo (T : Tr K mg CT) (hr : Room 1 (XI P w K mg base f cdv A outer s H0 E).A) :
    ∃ tf, PS (XI P w K mg base f cdv A outer s H0 E) tFo tf ∧ ∀ (D : Ends) {H HR H1 : Hp} {x N L dx d a : Addr} {v : V} {n : Option V} {t : Nd} {now : List Str} {ks : List (Str × Nd)} {M : Nat} {kvs : List (List Key × V)} {todo : List (Addr × List Str)}, LC H HR x N L t → M ≤ 61 →
      NdAt HR (.ref d) (.dir ks) → sub t now = some (.dir ks) → LS H HR CT x N L dx t H1 kvs todo → Fl HR t kvs todo now ks M → H1 a = some (.tup (now.map V.str)) → valV kvs (pk now) = some (.ref d) → DKeep HR H1 →
      (∀ n' H' kvs todo, LS H HR CT x N L dx t H' kvs todo → Fl HR t kvs todo now [] M → DKeep HR H' → D.nx (sI x L v (some (.ref a)) n') H') →
      tf D (sI x L v (some (.ref a)) n) H1 := by
  have hu1 : (XI P w K mg base f cdv A outer s H0 E).A.units + 1 < cLine := by
    have := hr.units
    omega
  obtain ⟨tb, hb, rb⟩ := hFB (P := P) (w := w) (base := base) (f := f) (cdv := cdv) (A := A) (outer := outer) (s := s) (H0 := H0) (E := E) T hr
  refine ⟨_, ps_lock (ps_for (passes_of rfl) rfl (pi_keys (pe_dget hu1 (pe_fld (pv 0) rfl) (pv 3) (fun _ _ => rfl))) (pg_name (i := 4) scInit.nd rfl (Or.inl rfl)) hb), ?_⟩
  intro D H HR H1 x N L dx d a v n t now ks M kvs todo Lc hM hnd hsub S F ha hn hk q
  cases hnd with
  | @dir _ kvd _ h hkk hnn hl hz hv =>
  have h1 : H1 d = some (.dK kvd) := hk _ _ h
  refine ⟨d, .dK kvd, h1, True.intro, fun od => ?_⟩
  have nxd : x ≠ d := ne_of S.ox h1 (by intro z; cases z)
  have nNd : N ≠ d := ne_of S.on h1 (by intro z; cases z)
  have nLd : L ≠ d := ne_of S.ol h1 (by intro z; cases z)
  have nad : a ≠ d := ne_of ha h1 (by intro z; cases z)
  have hHd : H d = none := Lc.hR _ _ h
  obtain ⟨H2, e2⟩ : ∃ H2, H2 = upd H1 d (.frz od (.dK kvd)) := ⟨_, rfl⟩
  have st2 : ∀ b o, H1 b = some o → b ≠ d → H2 b = some o := fun b o hb n => by
    rw [e2, upd_ne n]
    exact hb
  rw [← e2]
  have S2 : LS H HR CT x N L dx t H2 kvs todo := ⟨st2 _ _ S.ox nxd, st2 _ _ S.on nNd, st2 _ _ S.ol nLd, fun q0 h0 => st2 _ _ (S.ot q0 h0) (ne_of (S.ot q0 h0) h1 (by intro z; cases z)), fun b o nb hb0 => st2 _ _ (S.kp b o nb hb0) (fun z => by
    rw [z, hHd] at hb0
    cases hb0)⟩
  have ha2 := st2 _ _ ha nad
  have hd2 : H2 d = some (.frz od (.dK kvd)) := by rw [e2]; exact upd_same
  have hkn : (kvd.map (·.1)).Nodup := by
    have z : kvd.map (·.1) = (ks.map (·.1)).map (Sum.inr : Str → Key) := by
      rw [List.map_map]
      exact hkk
    rw [z]
    unfold List.Nodup at hnn ⊢
    rw [List.pairwise_map]
    exact hnn.imp fun h e => h (Sum.inr.inj e)
  have hlen : kvd.length = ks.length := by
    have e := congrArg List.length hkk
    rw [List.length_map, List.length_map] at e
    exact e
  have g1 : DGet H2 N (.ref a) (some (.ref d)) := by
    have z := DGet.t (k := pk now) S2.on (by rw [pk_kV]; exact ha2)
    rw [hn] at z
    exact z
  refine ⟨_, rfl, x, CT, dx, fl N, .ref N, rfl, S2.ox, T.cl, T.nN, fl_nodes N, _, rfl, N, .ref d, rfl, g1, d, od, rfl, .inl ⟨kvd, hd2, for_it walk_keys (fun i σ H3 => ∃ n' kvs' todo', σ = sI x L v (some (.ref a)) n' ∧ LS H HR CT x N L dx t H3 kvs' todo' ∧ Fl HR t kvs' todo' now (ks.drop i) M ∧ H3 d = some (.frz od (.dK kvd)) ∧ H3 a = some (.tup (now.map V.str)) ∧ valV kvs' (pk now) = some (.ref d) ∧ ∀ b kv, b ≠ d → HR b = some (.dK kv) → H3 b = some (.dK kv)) ?_ ?_ ?_ ?_⟩⟩
  · exact ⟨n, kvs, todo, rfl, S2, F, hd2, ha2, hn, fun b kv nb hb0 => st2 _ _ (hk _ _ hb0) nb⟩
  · rintro i σ H3 _ ⟨_, _, _, _, _, _, h3, _⟩
    exact h3
  · rintro i y σ H3 H4 hi ⟨n', kvs', todo', rfl, S3, F3, hd3, ha3, hn3, hk3⟩ ⟨rfl, k, u, hku, rfl⟩
    have hi' : i < ks.length := by omega
    obtain ⟨e, he⟩ : ∃ e, ks[i]? = some e := ⟨_, List.getElem?_eq_getElem hi'⟩
    have ek : k = Sum.inr e.1 := by
      have e1 : (kvd.map (·.1))[i]? = some k := by rw [List.getElem?_map, hku]; rfl
      rw [hkk, List.getElem?_map, he] at e1
      exact (Option.some.inj e1).symm
    subst ek
    have ed : ks.drop i = e :: ks.drop (i + 1) := by
      rw [List.drop_eq_getElem_cons hi']
      congr 1
      rw [List.getElem?_eq_getElem hi'] at he
      exact Option.some.inj he
    rw [ed] at F3
    refine rb _ Lc hM (valV_at hkn hku) (hv i _ e hku he) ?_ S3 F3 hd3 ha3 hn3 hk3 fun H5 kvs5 todo5 S5 F5 hd5 ha5 hn5 hk5 => ⟨_, kvs5, todo5, rfl, S5, F5, hd5, ha5, hn5, hk5⟩
    rw [sub_snoc hsub]
    exact kidL_at (i := i) hnn he
  · rintro σ H3 ⟨n', kvs', todo', rfl, S3, F3, hd3, ha3, hn3, hk3⟩
    refine ⟨hd3, ?_⟩
    have ed : ks.drop kvd.length = [] := List.drop_eq_nil_of_le (by omega)
    rw [ed] at F3
    have st4 : ∀ b o, H3 b = some o → b ≠ d → upd H3 d (.dK kvd) b = some o := fun b o hb n => by
      rw [upd_ne n]
      exact hb
    refine q n' _ kvs' todo' ⟨st4 _ _ S3.ox nxd, st4 _ _ S3.on nNd, st4 _ _ S3.ol nLd, fun q0 h0 => st4 _ _ (S3.ot q0 h0) (ne_of (S3.ot q0 h0) hd3 (by intro z; cases z)), fun b o nb hb0 => st4 _ _ (S3.kp b o nb hb0) (fun z => by
      rw [z, hHd] at hb0
      cases hb0)⟩ F3 fun b kv hb0 => ?_
    by_cases c : b = d
    · subst c
      rw [h] at hb0
      cases hb0
      exact upd_same
    · exact st4 _ _ (hk3 b kv c hb0) c
end
end Tx
set_option Elab.async false
set_option linter.all false
set_option maxRecDepth 100000
set_option maxHeartbeats 8000000
namespace Tx
open PySem PySem.Spec PyProof.Rows L2 Cm
section
variable {P : Program} {w : World} {K : PySem.W.Frag} {mg : Str → Option Value} {base : Heap} {f C CT : Addr} {fd : FuncData} {cdv : Value} {A : Around} {outer : List Env} {s : Shared} {H0 : Hp} {E : XK}
theorem hWh (B : Bi mg) (T : Tr K mg CT) (hr : Room 1 (XI P w K mg base f cdv A outer s H0 E).A) :
    ∃ tw, PS (XI P w K mg base f cdv A outer s H0 E) (tI 3) tw ∧ ∀ (D : Ends) {H HR H1 : Hp} {x N L dx : Addr} {v : V} {a n : Option V} {t : Nd} {now : List Str} {M : Nat} {kvs : List (List Key × V)} {todo : List (Addr × List Str)}, LC H HR x N L t → M ≤ 61 →
      LS H HR CT x N L dx t H1 kvs todo → Fl HR t kvs todo now [] M → DKeep HR H1 →
      (∀ σ H' kvs, LS H HR CT x N L dx t H' kvs [] → FlatD HR t kvs → DKeep HR H' → D.nx σ H') →
      tw D (sI x L v a n) H1 := by
  have hu1 : (XI P w K mg base f cdv A outer s H0 E).A.units + 1 < cLine := by
    have := hr.units
    omega
  obtain ⟨tf, hf, rf⟩ := hFo (P := P) (w := w) (base := base) (f := f) (cdv := cdv) (A := A) (outer := outer) (s := s) (H0 := H0) (E := E) T hr
  refine ⟨_, ps_while (passes_of rfl) (pt_truth (pv 2) (fun _ => rfl)) (pss_cons (ps_set (i := 3) scInit.nd rfl (Or.inl rfl) (pe_bm0 PySem.F.plainAttrs_list PySem.F.slot_list_pop PySem.F.type_list_pop mt_pop (pv 2)))
    (pss_one (ps_if (pt_val (pe_callB call_isi (by rfl) B.isin (by decide +kernel) (pa_cons (pe_dget hu1 (pe_fld (pv 0) rfl) (pv 3) (fun _ _ => rfl)) (pa_cons (pe_bltn (v := .ty "dict") (by rfl) B.dict (by decide +kernel) rfl) pa_nil)))) (pss_one hf) pss_nil))), ?_⟩
  intro D H HR H1 x N L dx v a n t now M kvs todo Lc hM S F hk q
  refine ⟨fun m σ H' => ∃ a n kvs todo now, σ = sI x L v a n ∧ LS H HR CT x N L dx t H' kvs todo ∧ Fl HR t kvs todo now [] m ∧ DKeep HR H' ∧ m ≤ 61, ⟨M, a, n, kvs, todo, now, rfl, S, F, hk, hM⟩, ?_⟩
  clear S F hk hM
  rintro m σ H2 ⟨a, n, kvs, todo, now, rfl, S, F, hk, hM⟩
  rcases List.eq_nil_or_concat todo with e | ⟨r, q0, e⟩
  · subst e
    exact ⟨_, rfl, false, .inl ⟨_, SqL.of S.ol, rfl⟩, iteF (q _ _ kvs S F.flat hk)⟩
  · rw [List.concat_eq_append] at e
    subst e
    have el : (r ++ [q0]).map (fun q => V.ref q.1) = r.map (fun q => V.ref q.1) ++ [V.ref q0.1] := by
      rw [List.map_append]
      rfl
    refine ⟨_, rfl, true, .inl ⟨_, SqL.of S.ol, by rw [el]; simp⟩, iteT ⟨fun σ' H' => ∃ m', m' < m ∧ ∃ a n kvs todo now, σ' = sI x L v a n ∧ LS H HR CT x N L dx t H' kvs todo ∧ Fl HR t kvs todo now [] m' ∧ DKeep HR H' ∧ m' ≤ 61, fun _ _ h => h, ?_⟩⟩
    have hL := S.ol
    rw [el] at hL
    refine ⟨_, rfl, .inl ⟨rfl, _, SqL.of S.ol⟩, L, _, .ref q0.1, rfl, rfl, hL, by simp, ?_⟩
    have ed : (r.map (fun q => V.ref q.1) ++ [V.ref q0.1]).dropLast = r.map (fun q => V.ref q.1) := by simp
    rw [ed]
    obtain ⟨H3, e3⟩ : ∃ H3, H3 = upd H2 L (.lst (r.map fun q => V.ref q.1)) := ⟨_, rfl⟩
    rw [← e3]
    have st3 : ∀ b o, H2 b = some o → b ≠ L → H3 b = some o := fun b o h n => by
      rw [e3, upd_ne n]
      exact h
    have ht0 := S.ot q0 (by simp)
    have S3 : LS H HR CT x N L dx t H3 kvs r := ⟨st3 _ _ S.ox (ne_of S.ox S.ol (by intro z; cases z)), st3 _ _ S.on (ne_of S.on S.ol (by intro z; cases z)), by rw [e3]; exact upd_same, fun q1 h1 => st3 _ _ (S.ot q1 (List.mem_append_left _ h1)) (ne_of (S.ot q1 (List.mem_append_left _ h1)) S.ol (by intro z; cases z)), fun b o nb hb0 => st3 _ _ (S.kp b o nb hb0) (fun z => by
      rw [z, Lc.hL] at hb0
      cases hb0)⟩
    have ht3 : H3 q0.1 = some (.tup (q0.2.map V.str)) := st3 _ _ ht0 (ne_of ht0 S.ol (by intro z; cases z))
    have hk3 : DKeep HR H3 := fun b kv hb0 => st3 _ _ (hk b kv hb0) (fun z => Lc.lR kv (z ▸ hb0))
    obtain ⟨v0, hv0⟩ := F.td q0 (by simp)
    obtain ⟨p', u, ep, hsub, hnd⟩ := F.ok _ v0 hv0
    cases pk_inj ep
    have g1 : DGet H3 N (.ref q0.1) (some v0) := by
      have z := DGet.t (k := pk q0.2) S3.on (by rw [pk_kV]; exact ht3)
      rw [hv0] at z
      exact z
    refine ⟨_, rfl, x, CT, dx, fl N, .ref N, rfl, S3.ox, T.cl, T.nN, fl_nodes N, _, rfl, N, v0, rfl, g1, ?_⟩
    cases u with
    | dir ks =>
      obtain ⟨F3, hm⟩ := F.pop hsub ks (.inl rfl)
      obtain ⟨d, rfl, kvd, hd⟩ : ∃ d, v0 = .ref d ∧ ∃ kvd, HR d = some (.dK kvd) := by
        cases hnd with
        | dir h _ _ _ _ _ => exact ⟨_, rfl, _, h⟩
      refine ⟨_, .ty "dict", _, _, true, rfl, .ty _, .base (.dK (hk3 _ _ hd)), kit_ty (by decide +kernel), _, rfl, iteT ?_⟩
      refine rf _ Lc (by omega) hnd hsub S3 F3 ht3 hv0 hk3 fun n' H4 kvs4 todo4 S4 F4 hk4 => ?_
      exact ⟨m - 1, by omega, some (.ref q0.1), n', kvs4, todo4, _, rfl, S4, F4, hk4, by omega⟩
    | fil i =>
      obtain ⟨F3, hm⟩ := F.pop hsub [] (.inr ⟨rfl, fun _ z => nomatch z⟩)
      obtain rfl : v0 = .int i := by
        cases hnd
        rfl
      refine ⟨_, .ty "dict", _, _, false, rfl, .ty _, .base (.int i), kit_ty (by decide +kernel), _, rfl, iteF ?_⟩
      exact ⟨m - 1, by omega, some (.ref q0.1), n, kvs, r, _, rfl, S3, F3, hk3, by omega⟩
    | lnk z =>
      obtain ⟨F3, hm⟩ := F.pop hsub [] (.inr ⟨rfl, fun _ z => nomatch z⟩)
      obtain rfl : v0 = .str z := by
        cases hnd
        rfl
      refine ⟨_, .ty "dict", _, _, false, rfl, .ty _, .base (.str z), kit_ty (by decide +kernel), _, rfl, iteF ?_⟩
      exact ⟨m - 1, by omega, some (.ref q0.1), n, kvs, r, _, rfl, S3, F3, hk3, by omega⟩
/-- Tree(top) -/
def spTree (K : PySem.W.Frag) (CT C : Addr) : Sp := fun vs H Q E => ∃ x dx v, vs = [.ref x, v] ∧ H x = some (.ins CT dx []) ∧
  ((∃ ks, NdAt H v (.dir ks) ∧ (∀ t' n, nv 9 (.dir ks) 0 = some (t', n) → ∀ H' N kvs, H' x = some (.ins CT dx (fl N)) → newIn H H' N = some (.dT kvs) → FlatD (newIn H H') t' kvs → But x H H' → Q .non H') ∧ (nv 9 (.dir ks) 0 = none → ∀ H', But x H H' → E (.ref C) none H')) ∨
  ∃ ty, TyX K H v ty ∧ PySem.W.kitOne K ty (.type "dict") = some false ∧ E (.ref C) none H)
theorem ok_init (F : Fun K "__init__" "Tree.__init__" sInit f fd) (B : Bi mg) (T : Tr K mg CT) (Nt : No K mg C) (NX : Cl P w K mg base (L2.CX P w) 12 "node_value" ["thing", "depth", "met"] (spNode C 9)) :
    FnOk P w K mg base (L2.CX P w) 13 f fd ["self", "top"] (spTree K CT C) := by
  refine F.okX scInit (fun vs H Q E h => ?_) (fun cdv A outer s H vs Q E hr h => ?_)
  · obtain ⟨x, dx, v, rfl, _⟩ := h
    rfl
  · obtain ⟨x, dx, v, rfl, hx, h⟩ := h
    rw [bodyInit]
    have hr' : Room 12 (XI P w K mg base f cdv A outer s H E).A := hr
    have hu1 : (XI P w K mg base f cdv A outer s H E).A.units + 1 < cLine := by
      have := hr'.units
      omega
    obtain ⟨tw, hw, rw'⟩ := hWh (P := P) (w := w) (base := base) (f := f) (cdv := cdv) (A := A) (outer := outer) (s := s) (H0 := H) (E := E) B T (hr'.mono (by decide))
    refine ⟨_, pss_cons (ps_if (pt_not (pt_val (pe_callB call_isi (by rfl) B.isin (by decide +kernel) (pa_cons (pv 1) (pa_cons (pe_bltn (v := .ty "dict") (by rfl) B.dict (by decide +kernel) rfl) pa_nil))))) (pss_one (ps_raise rfl (takes_of rfl rfl rfl rfl) (pmk_own PySem.F.excBase_ValueError Nt.x Nt.g Nt.k (raises_own Nt.b Nt.t) (by rfl)))) pss_nil)
      (pss_cons (ps_fld (pv 0) (DcE.pe_dispT hu1 (pe_tup pa_nil) (pe_cl NX hr' (Nat.le_refl _) (by rfl) (passes_call (takes_of rfl rfl rfl rfl) (fun _ _ _ _ h => h)) (pa_cons (pv 1) (pa_cons pe_int (pa_cons (pe_lst pa_nil) pa_nil))))) rfl)
      (pss_cons (ps_set (i := 2) scInit.nd rfl (Or.inl rfl) (pe_lst (pa_cons (pe_tup pa_nil) pa_nil)))
      (pss_one hw))), ?_⟩
    rcases h with ⟨ks, hn, hQ, hE⟩ | ⟨ty, hty, hk, hE⟩
    · obtain ⟨d0, rfl, kv0, hd0⟩ : ∃ d, v = .ref d ∧ ∃ kvd, H d = some (.dK kvd) := by
        cases hn with
        | dir h _ _ _ _ _ => exact ⟨_, rfl, _, h⟩
      refine ⟨_, rfl, _, .ty "dict", _, _, true, rfl, .ty _, .base (.dK hd0), kit_ty (by decide +kernel), _, rfl, iteF ?_⟩
      intro p hp
      refine ⟨by show 0 ≤ sizeLine; decide, fun pt hpt => ?_⟩
      refine ⟨_, rfl, by show 0 ≤ sizeLine; decide, fun pm hpm => ?_⟩
      have s1 : Same H (upd H p (.dT [])) := same_new hp
      have s2 : Same (upd H p (.dT [])) (upd (upd H p (.dT [])) pt (.tup [])) := same_new hpt
      have s3 : Same (upd (upd H p (.dT [])) pt (.tup [])) (upd (upd (upd H p (.dT [])) pt (.tup [])) pm (.lst [])) := same_new hpm
      have hp2 := s2 _ _ (upd_same (H := H) (a := p) (o := .dT []))
      have hp3 := s3 _ _ hp2
      have ht3 := s3 _ _ (upd_same (H := upd H p (.dT [])) (a := pt) (o := .tup []))
      have hm3 : (upd (upd (upd H p (.dT [])) pt (.tup [])) pm (.lst [])) pm = some (.lst []) := upd_same
      obtain ⟨H3, e3⟩ : ∃ H3, H3 = upd (upd (upd H p (.dT [])) pt (.tup [])) pm (.lst []) := ⟨_, rfl⟩
      have s13 : Same H H3 := fun b o h => by
        rw [e3]
        exact s3 _ _ (s2 _ _ (s1 _ _ h))
      rw [← e3] at hp3 ht3 hm3 ⊢
      have pmp : p ≠ pm := ne_of hp3 hm3 (by intro z; cases z)
      have ptm : pt ≠ pm := ne_of ht3 hm3 (by intro z; cases z)
      have pmH : H pm = none := by
        cases e : H pm with
        | none => rfl
        | some o =>
          rw [s2 _ _ (s1 _ _ e)] at hpm
          cases hpm
      refine ⟨_, .dir ks, pm, [], rfl, hn.mono (DKeep.same s13), hm3, by decide, ?_, ?_⟩
      · intro t' n en v' ms' H4 hv' hm' hl' hb
        have kp4 : Same H H4 := fun b o h => hb b o (fun z => by
          rw [z, pmH] at h
          cases h) (s13 _ _ h)
        have hp4 : H4 p = some (.dT []) := hb _ _ pmp hp3
        refine ⟨hp4, pt, [], v', rfl, hb _ _ ptm ht3, ?_⟩
        have px : p ≠ x := (ne_of_none hx hp).symm
        refine ⟨_, rfl, x, CT, dx, [], rfl, by rw [upd_ne px.symm]; exact kp4 _ _ hx, T.cl, T.nN, (by show 0 < 1000; decide), ?_⟩
        obtain ⟨H6, e6⟩ : ∃ H6, H6 = upd (upd H4 p (.dT [([], v')])) x (.ins CT dx (fl p)) := ⟨_, rfl⟩
        have hx6 : H6 x = some (.ins CT dx (fl p)) := by rw [e6]; exact upd_same
        have hp6 : H6 p = some (.dT [([], v')]) := by
          rw [e6, upd_ne px]
          exact upd_same
        have st6 : ∀ b o, H4 b = some o → b ≠ p → b ≠ x → H6 b = some o := fun b o h n1 n2 => by
          rw [e6, upd_ne n2, upd_ne n1]
          exact h
        refine ⟨by show 0 ≤ sizeLine; decide, fun pt2 hpt2 => ⟨by show 1 ≤ sizeLine; decide, fun pL hpL => ?_⟩⟩
        have e6' : upd (upd H4 p (.dT [([], v')])) x (.ins CT dx (putF "nodes" (.ref p) [])) = H6 := e6.symm
        rw [e6'] at hpt2 hpL ⊢
        have s7 : Same H6 (upd H6 pt2 (.tup [])) := same_new hpt2
        have s8 : Same (upd H6 pt2 (.tup [])) (upd (upd H6 pt2 (.tup [])) pL (.lst [.ref pt2])) := same_new hpL
        have ht8 := s8 _ _ (upd_same (H := H6) (a := pt2) (o := .tup []))
        have hL8 : (upd (upd H6 pt2 (.tup [])) pL (.lst [.ref pt2])) pL = some (.lst [.ref pt2]) := upd_same
        have s68 : Same H6 (upd (upd H6 pt2 (.tup [])) pL (.lst [.ref pt2])) := fun b o h => s8 _ _ (s7 _ _ h)
        have pL6 : H6 pL = none := by
          cases e : H6 pL with
          | none => rfl
          | some o =>
            rw [s7 _ _ e] at hpL
            cases hpL
        have pLp : pL ≠ p := fun z => by
          rw [z, hp6] at pL6
          cases pL6
        have pLx : pL ≠ x := fun z => by
          rw [z, hx6] at pL6
          cases pL6
        have pL4 : H4 pL = none := by
          cases e : H4 pL with
          | none => rfl
          | some o =>
            rw [st6 _ _ e pLp pLx] at pL6
            cases pL6
        have pLH : H pL = none := by
          cases e : H pL with
          | none => rfl
          | some o =>
            rw [kp4 _ _ e] at pL4
            cases pL4
        have hsz : sz t' ≤ 61 := by
          have z1 := nv_sz _ _ _ _ _ en
          have z2 := nv_le _ _ _ _ _ en
          have z3 : ([] : List V).length = 0 := rfl
          omega
        have hR : ∀ b o, newIn H H4 b = some o → H b = none := fun b o h => (newIn_some h).1
        have nb : But x H (upd (upd H6 pt2 (.tup [])) pL (.lst [.ref pt2])) := fun b o nb h => s68 _ _ (st6 _ _ (kp4 _ _ h) (ne_of_none h hp) nb)
        refine rw' _ (H := H) (HR := newIn H H4) (x := x) (N := p) (L := pL) (dx := dx) (t := t') (now := []) (M := sz t') (kvs := [([], v')]) (todo := [(pt2, [])]) ⟨⟨_, hx⟩, hp, pLH, hR, ?_, ?_, hsz⟩ hsz ⟨s68 _ _ hx6, s68 _ _ hp6, hL8, ?_, nb⟩ (Fl.start ?_ hsz) ?_ ?_
        · intro kv z
          rw [newIn_of hp, hp4] at z
          cases z
        · intro kv z
          rw [newIn_of pLH, pL4] at z
          cases z
        · intro q0 hq0
          rw [List.mem_singleton] at hq0
          subst hq0
          exact ht8
        · exact hv'.mono (newIn_part (fun b o h => ⟨_, s13 _ _ h⟩) fun _ _ _ e => e)
        · intro b kv hb0
          obtain ⟨z1, z2⟩ := newIn_some hb0
          refine s68 _ _ (st6 _ _ z2 (fun z => ?_) (fun z => ?_))
          · rw [z, hp4] at z2
            cases z2
          · rw [z, hx] at z1
            cases z1
        · intro σ H9 kvs S9 F9 k9
          refine hQ t' n en H9 p kvs S9.ox ?_ (F9.mono fun b kv hb0 => ?_) S9.kp
          · rw [newIn_of hp]
            exact S9.on
          · rw [newIn_of (hR _ _ hb0)]
            exact k9 b kv hb0
      · intro en H4 hb _
        exact hE en H4 fun b o nx h => hb b o (fun z => by
          rw [z, pmH] at h
          cases h) (s13 _ _ h)
    · exact ⟨_, rfl, _, .ty "dict", _, _, false, rfl, .ty _, hty, hk, _, rfl, iteT hE⟩
end
end Tx
set_option Elab.async false
set_option linter.all false
set_option maxRecDepth 100000
set_option maxHeartbeats 8000000
namespace Tx
open PySem PySem.Spec PyProof.Rows L2 Cm
theorem callIsiK {X : Cx} {K : PySem.W.Frag} (h : X.K = K) : CallR X (.builtin "isinstance") (rIsi K) := h ▸ call_isi
abbrev sHeld : Stmt := inClass sTree 2
abbrev sKind : Stmt := inClass sTree 3
abbrev sValue : Stmt := inClass sTree 4
/-- a Tree of the nodes t stands at a -/
structure TrAt (H : Hp) (CT a : Addr) (t : Nd) : Prop where
  ex : ∃ dx N kvs, H a = some (.ins CT dx (fl N)) ∧ H N = some (.dT kvs) ∧ FlatD H t kvs
theorem TrAt.same {H H' : Hp} {CT a : Addr} {t : Nd} (h : TrAt H CT a t) (s : Same H H') : TrAt H' CT a t := by
  obtain ⟨dx, N, kvs, h1, h2, h3⟩ := h.ex
  exact ⟨dx, N, kvs, s _ _ h1, s _ _ h2, h3.mono (DKeep.same s)⟩
/-- what held returns for what stands at the path -/
def HeldV (H : Hp) : Option Nd → V → Prop
  | none, v => v = .non
  | some u, v => NdAt H v u
def spHeld (CT : Addr) : Sp := fun vs H Q _ => ∃ a b t p, vs = [.ref a, .ref b] ∧ TrAt H CT a t ∧ H b = some (.tup (p.map V.str)) ∧ p.length ≤ 900 ∧ ∀ v H', Same H H' → HeldV H (sub t p) v → Q v H'
def kindV : Option Nd → V
  | none => .non
  | some (.dir _) => .str "dir"
  | some (.lnk _) => .str "link"
  | some (.fil _) => .str "file"
def valueV : Option Nd → V
  | none => .non
  | some (.dir _) => .non
  | some (.lnk z) => .str z
  | some (.fil i) => .int i
def spKind (CT : Addr) : Sp := fun vs H Q _ => ∃ a b t p, vs = [.ref a, .ref b] ∧ TrAt H CT a t ∧ H b = some (.tup (p.map V.str)) ∧ p.length ≤ 900 ∧ ∀ H', Same H H' → Q (kindV (sub t p)) H'
def spValue (CT : Addr) : Sp := fun vs H Q _ => ∃ a b t p, vs = [.ref a, .ref b] ∧ TrAt H CT a t ∧ H b = some (.tup (p.map V.str)) ∧ p.length ≤ 900 ∧ ∀ H', Same H H' → Q (valueV (sub t p)) H'
theorem scHeld : FnScope ["self", "node", "name"] ["self", "node"] (defScope sHeld) := ⟨rfl, rfl, rfl, by decide +kernel, rfl, by decide +kernel, by decide +kernel⟩
theorem scKind : FnScope ["self", "node", "held"] ["self", "node"] (defScope sKind) := ⟨rfl, rfl, rfl, by decide +kernel, rfl, by decide +kernel, by decide +kernel⟩
theorem scValue : FnScope ["self", "node", "held"] ["self", "node"] (defScope sValue) := ⟨rfl, rfl, rfl, by decide +kernel, rfl, by decide +kernel, by decide +kernel⟩
section
variable {P : Program} {w : World} {K : PySem.W.Frag} {mg : Str → Option Value} {base : Heap} {f CT : Addr} {fd : FuncData}
theorem ok_held {k : Nat} (F : Fun K "held" "Tree.held" sHeld f fd) (B : Bi mg) (T : Tr K mg CT) : FnOk P w K mg base CX0 (k + 1) f fd ["self", "node"] (spHeld CT) := by
  refine F.ok scHeld (fun vs H Q E h => ?_) (fun cdv A outer s H vs Q E hr h => ?_)
  · obtain ⟨a, b, t, p, rfl, _⟩ := h
    rfl
  · obtain ⟨a, b, t, p, rfl, hT, hb, hl, q⟩ := h
    have hu1 : (A.deeper (envOfC "Tree.held" (defScope sHeld) s.heap.objs.size f cdv)).units + 1 < cLine := by
      have := hr.units
      omega
    refine ⟨_, pss_cons (ps_if (PW.pt (pw_or (pt_not (pt_val (pe_callB call_isi (by rfl) B.isin (by decide +kernel) (pa_cons (pv 1) (pa_cons (pe_bltn (v := .ty "tuple") (by rfl) B.tuple (by decide +kernel) rfl) pa_nil))))) (pw_or1 (pt_not (pt_val (pe_callB (cr_all rfl) (by rfl) B.all (by decide +kernel) (pa_cons (pe_lc (own := [("name", 2)]) (g := gName 2) (tt := tYes) (by rfl) scHeld.nd (pi_tup (pv 1)) (blkOk_by (own := [("name", 2)]) (N := ["self", "node", "name"]) (sc := defScope sHeld) (by decide +kernel)) (fun _ _ _ _ _ => pg_name (i := 2) scHeld.nd rfl (Or.inl rfl)) (fun _ _ _ _ _ => pts_nil)
          (fun _ _ _ _ _ => pe_callB (callIsiK (K := K) rfl) (by rfl) B.isin (by decide +kernel) (pa_cons (pv 2) (pa_cons (pe_bltn (v := .ty "str") (by rfl) B.str (by decide +kernel) rfl) pa_nil)))) pa_nil))))))) (pss_one (ps_ret pe_non)) pss_nil)
      (pss_one (ps_ret (pe_dget1 hu1 (pe_fld (pv 0) rfl) (pv 1) ⟨rfl, rfl, rfl, rfl⟩))), ?_⟩
    refine ⟨_, rfl, _, .ty "tuple", _, _, true, rfl, .ty _, .base (.tup hb), kit_ty (by decide +kernel), _, rfl, iteF ?_⟩
    refine ⟨_, rfl, b, rfl, ⟨_, SqT.of hb⟩, fun D hD => lc_tup (K := K) (a := b) (xs := p.map V.str) (fun i H' => H' D = some (.lst ((List.replicate i true).map V.bl)) ∧ Same H H') ⟨upd_same, same_new hD⟩ (fun i H' _ h => SqT.of (h.2 _ _ hb)) ?_ ?_⟩
    · rintro i x H1 hx ⟨h3, sm⟩
      obtain ⟨z, rfl⟩ : ∃ z, x = V.str z := by
        rw [List.getElem?_map] at hx
        cases e : p[i]? with
        | none =>
          rw [e] at hx
          cases hx
        | some z =>
          rw [e] at hx
          exact ⟨z, (Option.some.inj hx).symm⟩
      have hi : i < (p.map V.str).length := (List.getElem?_eq_some_iff.mp hx).1
      rw [List.length_map] at hi
      refine ⟨rfl, _, rfl, _, .ty "str", _, _, true, rfl, .ty _, .base (.str z), kit_ty (by decide +kernel), ?_⟩
      refine ⟨_, h3, small1000 (by rw [List.length_map, List.length_replicate]; omega), ?_, same_mut hD sm⟩
      rw [upd_same, List.replicate_succ', List.map_append]
      rfl
    · rintro H1 ⟨h3, sm⟩
      refine ⟨D, _, rfl, SqL.of h3, _, rfl, ?_⟩
      have ea : (List.replicate (p.map V.str).length true).all id = true := by
        rw [List.all_eq_true]
        intro x hx
        rw [List.eq_of_mem_replicate hx]
        rfl
      rw [ea]
      refine iteF ?_
      obtain ⟨dx, N, kvs, h1, h2, h4⟩ := hT.ex
      have g1 : DGet H1 N (.ref b) (valV kvs (pk p)) := DGet.t (sm _ _ h2) (by rw [pk_kV]; exact sm _ _ hb)
      refine ⟨_, rfl, a, CT, dx, fl N, .ref N, rfl, sm _ _ h1, T.cl, T.nN, fl_nodes N, N, rfl, .inr ⟨kvs, .inl (sm _ _ h2)⟩, _, rfl, _, g1, q _ _ sm ?_⟩
      cases e : sub t p with
      | none =>
        rw [h4.no e]
        rfl
      | some u =>
        obtain ⟨v, hv, hn⟩ := h4.get e
        rw [hv]
        exact hn
theorem ok_kind {fH : Addr} {fdH : FuncData} {k : Nat} (F : Fun K "kind" "Tree.kind" sKind f fd) (B : Bi mg) (T : Tr K mg CT) (mH : Meth K CT "held" fH) (FH : FnOk P w K mg base CX0 (k + 1) fH fdH ["self", "node"] (spHeld CT)) (bH : Binds K fdH ["self", "node"] []) :
    FnOk P w K mg base CX0 (k + 2) f fd ["self", "node"] (spKind CT) := by
  refine F.ok scKind (fun vs H Q E h => ?_) (fun cdv A outer s H vs Q E hr h => ?_)
  · obtain ⟨a, b, t, p, rfl, _⟩ := h
    rfl
  · obtain ⟨a, b, t, p, rfl, hT, hb, hl, q⟩ := h
    refine ⟨_, pss_cons (ps_set (i := 2) scKind.nd rfl (Or.inl rfl) (pe_meth (pv 0) T.cl mH FH hr bH .nil pass0 (pa_cons (pv 1) pa_nil)))
      (pss_cons (ps_if (pt_cmp (pc_isN (pv 2))) (pss_one (ps_ret pe_non)) pss_nil)
      (pss_cons (ps_if (pt_val (pe_callB call_isi (by rfl) B.isin (by decide +kernel) (pa_cons (pv 2) (pa_cons (pe_bltn (v := .ty "dict") (by rfl) B.dict (by decide +kernel) rfl) pa_nil)))) (pss_one (ps_ret pe_str)) pss_nil)
      (pss_one (ps_ret (pe_ifExp (pt_val (pe_callB call_isi (by rfl) B.isin (by decide +kernel) (pa_cons (pv 2) (pa_cons (pe_bltn (v := .ty "str") (by rfl) B.str (by decide +kernel) rfl) pa_nil)))) pe_str pe_str))))), ?_⟩
    obtain ⟨dx, N, kvs, h1, h2, h4⟩ := hT.ex
    refine ⟨_, rfl, a, dx, fl N, rfl, h1, fl_no N (by decide +kernel), _, rfl, a, b, t, p, rfl, hT, hb, hl, fun v H1 sm hv => ?_⟩
    have qq := q H1 sm
    cases e : sub t p with
    | none =>
      rw [e] at hv qq
      obtain rfl : v = .non := hv
      exact ⟨_, rfl, _, rfl, iteT qq⟩
    | some u =>
      rw [e] at hv qq
      have hv' : NdAt H v u := hv
      cases hv' with
      | fil i =>
        refine ⟨_, rfl, _, rfl, iteF ?_⟩
        refine ⟨_, rfl, _, .ty "dict", _, _, false, rfl, .ty _, .base (.int i), kit_ty (by decide +kernel), _, rfl, iteF ?_⟩
        exact ⟨_, rfl, _, .ty "str", _, _, false, rfl, .ty _, .base (.int i), kit_ty (by decide +kernel), _, rfl, iteF qq⟩
      | lnk z hz =>
        refine ⟨_, rfl, _, rfl, iteF ?_⟩
        refine ⟨_, rfl, _, .ty "dict", _, _, false, rfl, .ty _, .base (.str z), kit_ty (by decide +kernel), _, rfl, iteF ?_⟩
        exact ⟨_, rfl, _, .ty "str", _, _, true, rfl, .ty _, .base (.str z), kit_ty (by decide +kernel), _, rfl, iteT qq⟩
      | dir h _ _ _ _ _ =>
        refine ⟨_, rfl, _, rfl, iteF ?_⟩
        exact ⟨_, rfl, _, .ty "dict", _, _, true, rfl, .ty _, .base (.dK (sm _ _ h)), kit_ty (by decide +kernel), _, rfl, iteT qq⟩
theorem ok_value {fH : Addr} {fdH : FuncData} {k : Nat} (F : Fun K "value" "Tree.value" sValue f fd) (B : Bi mg) (T : Tr K mg CT) (mH : Meth K CT "held" fH) (FH : FnOk P w K mg base CX0 (k + 1) fH fdH ["self", "node"] (spHeld CT)) (bH : Binds K fdH ["self", "node"] []) :
    FnOk P w K mg base CX0 (k + 2) f fd ["self", "node"] (spValue CT) := by
  refine F.ok scValue (fun vs H Q E h => ?_) (fun cdv A outer s H vs Q E hr h => ?_)
  · obtain ⟨a, b, t, p, rfl, _⟩ := h
    rfl
  · obtain ⟨a, b, t, p, rfl, hT, hb, hl, q⟩ := h
    refine ⟨_, pss_cons (ps_set (i := 2) scValue.nd rfl (Or.inl rfl) (pe_meth (pv 0) T.cl mH FH hr bH .nil pass0 (pa_cons (pv 1) pa_nil)))
      (pss_one (ps_ret (pe_ifExp (pt_val (pe_callB call_isi (by rfl) B.isin (by decide +kernel) (pa_cons (pv 2) (pa_cons (pe_bltn (v := .ty "dict") (by rfl) B.dict (by decide +kernel) rfl) pa_nil)))) pe_non (pv 2)))), ?_⟩
    obtain ⟨dx, N, kvs, h1, h2, h4⟩ := hT.ex
    refine ⟨_, rfl, a, dx, fl N, rfl, h1, fl_no N (by decide +kernel), _, rfl, a, b, t, p, rfl, hT, hb, hl, fun v H1 sm hv => ?_⟩
    have qq := q H1 sm
    cases e : sub t p with
    | none =>
      rw [e] at hv qq
      obtain rfl : v = .non := hv
      exact ⟨_, rfl, _, .ty "dict", _, _, false, rfl, .ty _, .base .non, kit_ty (by decide +kernel), _, rfl, iteF ⟨_, rfl, qq⟩⟩
    | some u =>
      rw [e] at hv qq
      have hv' : NdAt H v u := hv
      cases hv' with
      | fil i => exact ⟨_, rfl, _, .ty "dict", _, _, false, rfl, .ty _, .base (.int i), kit_ty (by decide +kernel), _, rfl, iteF ⟨_, rfl, qq⟩⟩
      | lnk z hz => exact ⟨_, rfl, _, .ty "dict", _, _, false, rfl, .ty _, .base (.str z), kit_ty (by decide +kernel), _, rfl, iteF ⟨_, rfl, qq⟩⟩
      | dir h _ _ _ _ _ => exact ⟨_, rfl, _, .ty "dict", _, _, true, rfl, .ty _, .base (.dK (sm _ _ h)), kit_ty (by decide +kernel), _, rfl, iteT qq⟩
end
end Tx
set_option Elab.async false
set_option linter.all false
set_option maxRecDepth 100000
set_option maxHeartbeats 4000000
/-! Lists written out, whose entries are told one by one by words of our own; all that was there stays. -/
namespace Wl
open PySem PySem.Spec PyProof.Rows L2 Cm
theorem PE.weak {X : Cx} {e : Expr} {te te' : TE} (h : PE X e te) (i : ∀ σ H Q, te' σ H Q → te σ H Q) : PE X e te' := ⟨fun pins s σ H Q I g => h.run pins s σ H Q I (i σ H Q g)⟩
theorem PA.weak {X : Cx} {es : List Expr} {t t' : TA} (h : PA X es t) (i : ∀ σ H Q, t' σ H Q → t σ H Q) : PA X es t' := ⟨fun pos pins s σ H Q I g => h.run pos pins s σ H Q I (i σ H Q g)⟩
/-- what is told of a state stays true as the heap grows -/
def Stb (G : L2.St → Hp → Prop) : Prop := ∀ σ H H', Same H H' → G σ H → G σ H'
def StbR {α : Type} (R : Hp → V → α → Prop) : Prop := ∀ H H' v w, Same H H' → R H v w → R H' v w
section
variable {α : Type} {G : L2.St → Hp → Prop} {R : Hp → V → α → Prop}
/-- one value, told by w -/
def tE (G : L2.St → Hp → Prop) (R : Hp → V → α → Prop) (w : α) : TE := fun σ H Q => G σ H ∧ ∀ v H', Same H H' → R H' v w → Q v H'
/-- a row of values -/
def tEs (G : L2.St → Hp → Prop) (R : Hp → V → α → Prop) (ws : List α) : TA := fun σ H Q => G σ H ∧ ∀ xs H', Same H H' → Paired (R H') xs ws → Q xs H'
/-- a list of such -/
def LsAt (R : Hp → V → α → Prop) (H : Hp) (v : V) (ws : List α) : Prop := ∃ l xs, v = .ref l ∧ H l = some (.lst xs) ∧ Paired (R H) xs ws
theorem pd_mono {H H' : Hp} (hR : StbR R) (s : Same H H') : ∀ {xs : List V} {ws : List α}, Paired (R H) xs ws → Paired (R H') xs ws
  | _, _, .nil => .nil
  | _, _, .cons a r => .cons (hR _ _ _ _ s a) (pd_mono hR s r)
theorem stbL (hR : StbR R) : StbR (LsAt R) := fun H H' v ws s ⟨l, xs, e, h, p⟩ => ⟨l, xs, e, s _ _ h, pd_mono hR s p⟩
theorem pd_len {H : Hp} {xs : List V} {ws : List α} (p : Paired (R H) xs ws) : xs.length = ws.length := Paired.length p
theorem pd_app {F : V → α → Prop} : ∀ {xs ys : List V} {ws us : List α}, Paired F xs ws → Paired F ys us → Paired F (xs ++ ys) (ws ++ us)
  | _, _, _, _, .nil, b => b
  | _, _, _, _, .cons a r, b => .cons a (pd_app r b)
variable {X : Cx} {e : Expr} {es : List Expr} {w : α} {ws us : List α} {pos p : Pos}
theorem pa_n (G : L2.St → Hp → Prop) (R : Hp → V → α → Prop) : PA X [] (tEs G R []) := PA.weak pa_nil fun σ H Q h => h.2 [] H (fun _ _ e => e) .nil
theorem pa_c (hG : Stb G) (hR : StbR R) (he : PE X e (tE G R w)) (hr : PA X es (tEs G R ws)) (hs : starEach (e :: es) X.env = (false, eval e X.env) :: starEach es X.env := by rfl) : PA X (e :: es) (tEs G R (w :: ws)) :=
  PA.weak (pa_cons he hr hs) fun σ H Q h => ⟨h.1, fun v H1 s1 r1 => ⟨hG _ _ _ s1 h.1, fun xs H2 s2 r2 => h.2 _ _ (fun b o z => s2 b o (s1 b o z)) (.cons (hR _ _ _ _ s2 r1) r2)⟩⟩
theorem pe_l (hR : StbR R) (hz : ws.length ≤ 1000) (h : PA X es (tEs G R ws)) : PE X (.List es pos) (tE G (LsAt R) ws) :=
  PE.weak (pe_lst h) fun σ H Q g => ⟨g.1, fun xs H1 s1 r1 => ⟨by rw [pd_len r1, sizeLine_eq]; omega, fun l hl => g.2 _ _ (fun b o z => same_new hl b o (s1 b o z)) ⟨l, xs, rfl, upd_same, pd_mono hR (same_new hl) r1⟩⟩⟩
theorem pe_cat {a b : Expr} (hG : Stb G) (hR : StbR R) (hz : ws.length + us.length ≤ 1000) (ha : PE X a (tE G (LsAt R) ws)) (hb : PE X b (tE G (LsAt R) us)) : PE X (.BinOp a .Add b pos) (tE G (LsAt R) (ws ++ us)) :=
  PE.weak (pe_op op_cat ha hb) fun σ H Q g => ⟨g.1, fun v1 H1 s1 r1 => ⟨hG _ _ _ s1 g.1, fun v2 H2 s2 r2 => by
    obtain ⟨l1, xs, e1, h1, p1⟩ := stbL hR _ _ _ _ s2 r1
    obtain ⟨l2, ys, e2, h2, p2⟩ := r2
    refine ⟨l1, l2, xs, ys, e1, e2, h1, h2, by rw [pd_len p1, pd_len p2, sizeLine_eq]; omega, fun l hl => g.2 _ _ (fun b o z => same_new hl b o (s2 b o (s1 b o z))) ⟨l, _, rfl, upd_same, pd_mono hR (same_new hl) (pd_app p1 p2)⟩⟩⟩⟩
/-- the list that stands in the name i -/
def Gn (G : L2.St → Hp → Prop) (R : Hp → V → List α → Prop) (i : Nat) (ws : List α) : L2.St → Hp → Prop := fun σ H => G σ H ∧ ∃ v, σ[i]? = some (some v) ∧ R H v ws
theorem stbG {R : Hp → V → List α → Prop} {i : Nat} (hG : Stb G) (hR : StbR R) : Stb (Gn G R i ws) := fun σ H H' s ⟨g, v, e, r⟩ => ⟨hG _ _ _ s g, v, e, hR _ _ _ _ s r⟩
theorem pe_n {β : Type} {G : L2.St → Hp → Prop} {R : Hp → V → β → Prop} {i : Nat} {w : β} {x : Str} (h : PE X (.Name x p) (tVar i)) (hi : ∀ σ H, G σ H → ∃ v, σ[i]? = some (some v) ∧ R H v w) : PE X (.Name x p) (tE G R w) :=
  PE.weak h fun σ H Q g => by
    obtain ⟨v, e, r⟩ := hi σ H g.1
    exact ⟨v, e, g.2 v H (fun _ _ z => z) r⟩
/-- x = e -/
theorem ho_set {β : Type} {G G' : L2.St → Hp → Prop} {R : Hp → V → β → Prop} {i : Nat} {w : β} {x : Str} {pos' : Pos} (hN : X.N.Nodup) (hi : X.N[i]? = some x) (hx : Loc X.env.scope x) (he : PE X e (tE G R w)) (hg : ∀ σ H v H', G σ H → Same H H' → R H' v w → G' (σ.set i (some v)) H')
    (hs : swapsWith e (some (.Name x pos')) pos.line X.env = pure false := by rfl) (hf : X.fn x = true ∨ X.env.scope.names.lookup x = some .local := by first | exact .inl rfl | exact .inr rfl | assumption) : Ho X (.Assign [.Name x pos'] e pos) G G' :=
  ⟨_, ps_set hN hi hx he hs hf, fun D σ H g q => ⟨g, fun v H' s r => q _ _ (hg σ H v H' g s r)⟩⟩
/-- return e -/
theorem ho_ret {β : Type} {R : Hp → V → β → Prop} {w : β} {r : VK} (he : PE X e (tE G R w)) (hr : ∀ σ H v H', G σ H → Same H H' → R H' v w → r v H') : HoR X [.Return (some e) pos] G r :=
  ⟨_, pss_one (ps_ret he), fun D σ H g q => ⟨g, fun v H' s h => q _ _ (hr σ H v H' g s h)⟩⟩
end
end Wl
set_option Elab.async false
set_option linter.all false
set_option maxRecDepth 100000
set_option maxHeartbeats 4000000
namespace Tx
open PySem PySem.Spec PyProof.Rows L2 Cm Ob
/-- what is never reached wants nothing -/
theorem pss_never {X : Cx} {sts : List Stmt} : PSs X sts (fun _ _ _ => False) := ⟨fun _ _ _ _ _ _ h => h.elim⟩
def tNo : TE := fun _ _ _ => False
theorem pe_never {X : Cx} {e : Expr} : PE X e tNo := ⟨fun _ _ _ _ _ _ h => h.elim⟩
def sNo : TS := fun _ _ _ => False
theorem pss_no {X : Cx} {sts : List Stmt} : PSs X sts sNo := ⟨fun _ _ _ _ _ _ h => h.elim⟩
theorem units1 {A : Around} {k : Nat} (hr : Room k A) : A.units + 1 < cLine := Nat.lt_of_le_of_lt (Nat.add_le_add_left (by decide) _) hr.units
theorem passF {P : Program} {w : World} {X : Cx} : Passes (L2.CX P w) X (fun _ _ _ => False) := fun _ _ _ _ _ _ _ ⟨_, _, _, _, _, _, _, _, _, _, _, _, z⟩ => z.elim
theorem pd_at {α : Type} {F : V → α → Prop} {xs : List V} {ws : List α} (p : Paired F xs ws) : ∀ {i : Nat} {x : V}, xs[i]? = some x → ∃ w, ws[i]? = some w ∧ F x w := by
  induction p with
  | nil => intro i x h; simp at h
  | cons a r ih =>
    intro i x h
    match i, h with
    | 0, h =>
      cases h
      exact ⟨_, rfl, a⟩
    | i + 1, h => exact ih (i := i) (by simpa using h)
theorem iteT' {c : Bool} {A B : Prop} (h : c = true) (a : A) : if c = true then A else B := by
  subst h
  exact a
theorem iteF' {c : Bool} {A B : Prop} (h : c = false) (b : B) : if c = true then A else B := by
  subst h
  simpa using b
/-- an error of the text -/
structure Ec (K : PySem.W.Frag) (mg : Str → Option Value) (nm : Str) (C : Addr) : Prop where
  g : mg nm = some (.ref C)
  x : PySem.W.excIn K C [.type "ValueError", .type "Exception", .type "BaseException", .type "object"] "ValueError.__new__" = true
  k : PySem.W.keepIn K (.ref C) = true
  b : PySem.W.subIn K (.ref C) (.type "BaseException") = some true
  t : PySem.W.typeIn K (.ref C) = some (.type "type")
/-- the class Tree, as isinstance asks it -/
structure TrI (K : PySem.W.Frag) (mg : Str → Option Value) (C : Addr) : Prop where
  cl : Cls K C
  mgC : mg "Tree" = some (.ref C)
  ha : PySem.W.findIn K (.ref C) "__class__" = some (some (.builtin "object.__class__"))
  hn : PySem.W.specialIn K (.builtin "object.__class__") "__get__" = some (some (.builtin "getset_descriptor.__get__"))
  ht : PySem.W.takesIn K (.builtin "object.__class__") = some true
  hm : PySem.W.mroIn K C (.type "object") = some true
  one : PySem.W.kitOne K (.ref C) (.ref C) = some true
  two : PySem.W.kitOne K (.type "dict") (.ref C) = some false
theorem scAT : FnScope ["thing", "name", "tree"] ["thing"] (defScope sAreTrees) := ⟨rfl, rfl, rfl, by decide +kernel, rfl, by decide +kernel, by decide +kernel⟩
/-- an entry of what may be trees: its name, whether a Tree stands there -/
def EnAt (C : Addr) (H : Hp) (kv : Key × V) (e : Str × Bool) : Prop := kv.1 = Sum.inr e.1 ∧ e.1.length ≤ 100000 ∧ ∃ a, kv.2 = .ref a ∧ ((e.2 = true ∧ ∃ dt ft, H a = some (.ins C dt ft)) ∨ (e.2 = false ∧ ∃ xs, H a = some (.dK xs)))
theorem EnAt.mono {C : Addr} {H H' : Hp} {kv : Key × V} {e : Str × Bool} (h : EnAt C H kv e) (s : ∀ a o, kv.2 = .ref a → H a = some o → H' a = some o) : EnAt C H' kv e := by
  obtain ⟨h1, h2, a, h3, h4⟩ := h
  refine ⟨h1, h2, a, h3, ?_⟩
  rcases h4 with ⟨x, dt, ft, y⟩ | ⟨x, xs, y⟩
  · exact .inl ⟨x, dt, ft, s _ _ h3 y⟩
  · exact .inr ⟨x, xs, s _ _ h3 y⟩
def EnsAt (C : Addr) (H : Hp) (kvs : List (Key × V)) (es : List (Str × Bool)) : Prop := kvs.length = es.length ∧ ∀ (i : Nat) kv e, kvs[i]? = some kv → es[i]? = some e → EnAt C H kv e
theorem EnsAt.mono {C : Addr} {H H' : Hp} {kvs : List (Key × V)} {es : List (Str × Bool)} (h : EnsAt C H kvs es) (s : ∀ kv ∈ kvs, ∀ a o, kv.2 = .ref a → H a = some o → H' a = some o) : EnsAt C H' kvs es := ⟨h.1, fun i kv e h1 h2 => (h.2 i kv e h1 h2).mono (s kv (List.mem_of_getElem? h1))⟩
theorem EnsAt.same {C : Addr} {H H' : Hp} {kvs : List (Key × V)} {es : List (Str × Bool)} (h : EnsAt C H kvs es) (s : Same H H') : EnsAt C H' kvs es := h.mono fun _ _ a o _ e => s a o e
def enB (e : Str × Bool) : Bool := nameB e.1 && e.2
inductive TrsAt (K : PySem.W.Frag) (C : Addr) (H : Hp) : V → Bool → Prop
  | oth {x : V} {n : String} (ty : TyX K H x (.type n)) (h : kitB n "dict" = some false) : TrsAt K C H x false
  | dic {d : Addr} {kvs : List (Key × V)} {es : List (Str × Bool)} (h : H d = some (.dK kvs)) (p : EnsAt C H kvs es) (l : kvs.length ≤ 100) (nd : ∀ kv ∈ kvs, kv.2 ≠ .ref d) : TrsAt K C H (.ref d) (decide (1 ≤ (kvs.length : Int)) && (decide ((kvs.length : Int) ≤ 8) && (es.map enB).all id))
def spTrees (K : PySem.W.Frag) (C : Addr) : Sp := fun vs H Q _ => ∃ x b, vs = [x] ∧ TrsAt K C H x b ∧ ∀ H', Same H H' → Q (.bl b) H'
section
variable {P : Program} {w : World} {K : PySem.W.Frag} {mg : Str → Option Value} {base : Heap}
theorem ok_trees {f C : Addr} {fd : FuncData} {k : Nat} (F : Fun K "are_trees" "are_trees" sAreTrees f fd) (B : Bi mg) (T : TrI K mg C) (N : Cl P w K mg base CX0 1 "is_name" ["thing"] (spName K)) : FnOk P w K mg base CX0 (k + 2) f fd ["thing"] (spTrees K C) := by
  refine F.ok scAT (fun vs H Q E h => ?_) (fun cdv A outer s H vs Q E hr h => ?_)
  · obtain ⟨x, b, rfl, _⟩ := h
    rfl
  · obtain ⟨x, b, rfl, hx, q⟩ := h
    refine ⟨_, pss_cons (ps_if (PW.pt (pw_or (pt_not (pt_val (pe_callB call_isi (by rfl) B.isin (by decide +kernel) (pa_cons (pv 0) (pa_cons (pe_bltn (v := .ty "dict") (by rfl) B.dict (by decide +kernel) rfl) pa_nil))))) (pw_or1 (pt_not (pt_chain op_le op_le pe_int (pe_callB call_lenD (by rfl) B.len PySem.boot_len (pa_cons (pv 0) pa_nil)) pe_int))))) (pss_one (ps_ret pe_bl)) pss_nil)
      (pss_one (ps_ret (pe_lock (pe_callB (cr_all rfl) (by rfl) B.all (by decide +kernel) (pa_cons (pe_lc (own := [("name", 1), ("tree", 2)]) (g := gTup K 2 (gCons (gName 1) (gCons (gName 2) gNil))) (tt := tYes) (by rfl) scAT.nd (pi_items (pv 0)) (blkOk_by (own := [("name", 1), ("tree", 2)]) (N := ["thing", "name", "tree"]) (sc := defScope sAreTrees) (by decide +kernel))
        (fun _ _ _ _ _ => pg_tup rfl (pgs_cons (pg_name (i := 1) scAT.nd rfl (Or.inl rfl)) (pgs_cons (pg_name (i := 2) scAT.nd rfl (Or.inl rfl)) pgs_nil))) (fun _ _ _ _ _ => pts_nil)
        (fun _ _ _ _ _ => pe_and (pe_cl N hr (by omega) (by rfl) pass0 (pa_cons (pv 1) pa_nil)) (pe_one (pe_callB (callIsiK (K := K) rfl) (by rfl) B.isin (by decide +kernel) (pa_cons (pv 2) (pa_cons (pe_glob (v := .ref C) (by rfl) T.mgC rfl) pa_nil)))))) pa_nil))))), ?_⟩
    cases hx with
    | oth ty h => exact ⟨_, rfl, _, .ty "dict", _, _, false, rfl, .ty _, ty, kit_ty h, _, rfl, iteT (iteT (q _ (Same.refl H)))⟩
    | @dic d kvs es hd p l nd =>
    refine ⟨_, rfl, _, .ty "dict", _, _, true, rfl, .ty _, .base (.dK hd), kit_ty (by decide +kernel), _, rfl, iteF ?_⟩
    refine ⟨_, rfl, d, _, rfl, hd, _, _, rfl, rfl, _, rfl, ?_⟩
    cases h1 : decide (1 ≤ (kvs.length : Int)) with
    | false =>
      rw [h1] at q
      exact iteF ⟨_, rfl, iteT (q _ (Same.refl H))⟩
    | true =>
    rw [h1] at q
    refine iteT ⟨_, _, rfl, rfl, _, rfl, ?_⟩
    cases h2 : decide ((kvs.length : Int) ≤ 8) with
    | false =>
      rw [h2] at q
      exact iteT (q _ (Same.refl H))
    | true =>
    rw [h2] at q
    refine iteF ⟨d, _, hd, trivial, fun od => ?_⟩
    refine ⟨_, rfl, d, od, _, rfl, upd_same, fun D hD => lc_it walk_items (fun i H' => H' D = some (.lst (((es.map enB).take i).map V.bl)) ∧ Same (upd H d (.frz od (.dK kvs))) H') ⟨upd_same, same_new hD⟩ (fun i H' _ h => h.2 _ _ upd_same) ?_ ?_⟩
    · rintro i x H1 H2 hi ⟨h3, sm⟩ ⟨T1, xx, yy, rfl, hT, rfl, hx, hy⟩
      have hke : kvs[i]? = some kvs[i] := List.getElem?_eq_getElem hi
      have hie : i < es.length := by rw [← p.1]; exact hi
      have hee : es[i]? = some es[i] := List.getElem?_eq_getElem hie
      obtain ⟨e1, e2, a, e3, e4⟩ := p.2 i _ _ hke hee
      have hx : kvs[i]?.map (fun kv => kV kv.1) = some xx := hx
      have hy : kvs[i]?.map Prod.snd = some yy := hy
      rw [hke] at hx hy
      generalize hz : es[i].1 = z at *
      have hx2 : kV kvs[i].1 = xx := Option.some.inj hx
      have hy2 : kvs[i].2 = yy := Option.some.inj hy
      rw [e1] at hx2
      rw [e3] at hy2
      subst hx2 hy2
      have sT := same_new (o := HO.tup [kV (Sum.inr z : Key), .ref a]) hT
      have fin : ∀ (H3 : Hp) (bb : Bool), Same (upd H1 T1 (.tup [kV (Sum.inr z : Key), .ref a])) H3 → bb = enB es[i] → ∃ acc, H3 D = some (.lst acc) ∧ acc.length < sizeLine ∧ (upd H3 D (.lst (acc ++ [.bl bb]))) D = some (.lst (((es.map enB).take (i + 1)).map V.bl)) ∧ Same (upd H d (.frz od (.dK kvs))) (upd H3 D (.lst (acc ++ [.bl bb]))) := fun H3 bb s3 eb => by
        refine ⟨_, s3 _ _ (sT _ _ h3), ?_, ?_, same_mut hD ((sm.trans sT).trans s3)⟩
        · rw [sizeLine_eq, List.length_map, List.length_take, List.length_map]
          omega
        · rw [upd_same, List.take_succ, List.getElem?_map, hee, eb]
          simp
      refine ⟨T1, _, rfl, SqT.of upd_same, rfl, _, _, rfl, _, _, rfl, rfl, rfl, _, rfl, _, _, rfl, .str z e2, fun H3 s3 => ⟨_, rfl, ?_⟩⟩
      have hdT : d ≠ T1 := fun z => by
        have := sm _ _ (upd_same (H := H) (a := d) (o := HO.frz od (.dK kvs)))
        rw [z, hT] at this
        cases this
      cases hn : nameB z with
      | false => exact iteF (fin H3 false s3 (by rw [enB, hz, hn]; rfl))
      | true =>
        refine iteT ⟨_, rfl, ?_⟩
        rcases e4 with ⟨et, dt, ft, ha⟩ | ⟨et, xs, ha⟩
        · have had : a ≠ d := ne_of ha hd (by intro z; cases z)
          have ha3 : H3 a = some (.ins C dt ft) := s3 _ _ (sT _ _ (sm _ _ (by rw [upd_ne had]; exact ha)))
          exact ⟨_, .ref C, _, _, true, rfl, .own C, .base (.ins ha3 T.cl T.ha T.hn T.ht T.hm), T.one, fin H3 true s3 (by rw [enB, hz, hn, et]; rfl)⟩
        · have had : a ≠ d := fun z => nd _ (List.mem_of_getElem? hke) (by rw [e3, z])
          have ha3 : H3 a = some (.dK xs) := s3 _ _ (sT _ _ (sm _ _ (by rw [upd_ne had]; exact ha)))
          exact ⟨_, .ref C, _, _, false, rfl, .own C, .base (.dK ha3), T.two, fin H3 false s3 (by rw [enB, hz, hn, et]; rfl)⟩
    · rintro H1 ⟨h3, sm⟩
      have hfin : ((es.map enB).take kvs.length).map V.bl = (es.map enB).map V.bl := by
        rw [p.1, List.take_of_length_le (by simp)]
      rw [hfin] at h3
      refine ⟨D, es.map enB, rfl, SqL.of h3, sm _ _ upd_same, q _ fun b o hb => ?_⟩
      by_cases e : b = d
      · subst e
        rw [hd] at hb
        cases hb
        exact upd_same
      · rw [upd_ne e]
        exact sm _ _ (by rw [upd_ne e]; exact hb)
end
end Tx
set_option Elab.async false
set_option linter.all false
set_option maxRecDepth 100000
set_option maxHeartbeats 8000000
namespace Tx
open PySem PySem.Spec PyProof.Rows L2 Cm Ob
/-- a dict comprehension over a walk -/
theorem dc_it {J : It} {n : Nat} {G : Hp → Prop} {Y : Nat → Hp → V → Hp → Prop} (wk : Walk J n G Y) {g : TG} {tt : TT} {tk tv : TE} {vs : List Nat} {σ : L2.St} {H1 : Hp} {D : Addr} {Qd : Hp → Prop} (Pv : Nat → Hp → Prop) (h0 : Pv 0 (upd H1 D (.dK []))) (hG : ∀ i H, i ≤ n → Pv i H → G H)
    (hs : ∀ i x H H', i < n → Pv i H → Y i H x H' → g x (wipe σ vs) H' fun σ2 H2 => wipe σ2 vs = wipe σ vs ∧ tt σ2 H2 fun b H3 =>
      if b = true then tk σ2 H3 fun y H4 => tv σ2 H4 fun z H5 => ∃ kvs k, y = kV k ∧ H5 D = some (.dK kvs) ∧ kvs.length < sizeLine ∧ Pv (i + 1) (upd H5 D (.dK (putK kvs k z))) else Pv (i + 1) H3) (hd : ∀ H, Pv n H → Qd H) :
    ∃ W : Nat → Nat → Hp → Prop, (∃ m, W 0 m (upd H1 D (.dK []))) ∧ ∀ i m H, W i m H →
      (J.stop i H ∧ Qd H) ∨ (J.go i H ∧ ∃ Nx : Hp → Prop, (∀ H', Nx H' → ∃ m', m' < m ∧ W (i + 1) m' H') ∧ ∀ x H', J.yld i H x H' → g x (wipe σ vs) H' fun σ2 H2 => wipe σ2 vs = wipe σ vs ∧ tt σ2 H2 fun b H3 =>
        if b = true then tk σ2 H3 fun y H4 => tv σ2 H4 fun z H5 => ∃ kvs k, y = kV k ∧ H5 D = some (.dK kvs) ∧ kvs.length < sizeLine ∧ Nx (upd H5 D (.dK (putK kvs k z))) else Nx H3) := by
  refine ⟨fun i m H => m = n - i ∧ i ≤ n ∧ Pv i H, ⟨n, by simp, Nat.zero_le _, h0⟩, ?_⟩
  rintro i m H ⟨em, hi, p⟩
  by_cases hlt : i < n
  · exact .inr ⟨wk.goes i H hlt (hG i H hi p), Pv (i + 1), fun H' p' => ⟨n - (i + 1), by omega, rfl, hlt, p'⟩, fun x H' y => hs i x H H' hlt p (wk.yields i H x H' hlt (hG i H hi p) y)⟩
  · have e : i = n := by omega
    subst e
    exact .inl ⟨wk.stops H (hG _ H hi p), hd H p⟩
abbrev sWoI : Stmt := inClass sWorldC 0
abbrev nWo : List Str := ["self", "trees", "first", "most", "top", "name"]
theorem scWoI : FnScope nWo ["self", "trees", "first", "most"] (defScope sWoI) := ⟨rfl, rfl, rfl, by decide +kernel, rfl, by decide +kernel, by decide +kernel⟩
def stW (i : Nat) : Stmt := (defBody sWoI).getD i (.Pass ⟨0, 0, 0, 0⟩)
theorem bodyWoI : defBody sWoI = [stW 0, stW 1, stW 2, stW 3, stW 4, stW 5, stW 6, stW 7, stW 8, stW 9] := rfl
def woN : List Str := ["first", "deeds", "sessions", "table"]
def woF (fi de se ta : V) : List (Str × V) := [("first", fi), ("deeds", de), ("sessions", se), ("table", ta)]
/-- what World.__init__ calls -/
structure WoC (P : Program) (w : World) (K : PySem.W.Frag) (mg : Str → Option Value) (base : Heap) (CW CT CM CR : Addr) : Prop where
  cW : Cn K CW woN
  cT : Cn K CT tbN
  cM : Cn K CM mtN
  trees : Cl P w K mg base CX0 2 "are_trees" ["thing"] (spTrees K CR)
  name : Cl P w K mg base CX0 1 "is_name" ["thing"] (spName K)
  whole : Cl P w K mg base CX0 1 "is_whole" ["thing", "low", "high"] (spWhole K)
  mkT : ∃ f fd, Mk K CT f ∧ FnOk P w K mg base CX0 1 f fd ["self", "trees", "most"] (spTbI CT) ∧ Binds K fd ["self", "trees", "most"] []
  gT : mg "Table" = some (.ref CT)
  newM : ∃ f fd, Meth K CT "new_mount" f ∧ FnOk P w K mg base CX0 3 f fd ["self", "space", "tree", "root"] (spNewM CT CM) ∧ Binds K fd ["self", "space", "tree", "root"] []
  next : ∃ f fd, Meth K CT "next" f ∧ FnOk P w K mg base CX0 1 f fd ["self", "what"] (spNext CT) ∧ Binds K fd ["self", "what"] []
abbrev XWo (P : Program) (w : World) (K : PySem.W.Frag) (mg : Str → Option Value) (base : Heap) (f : Addr) (cdv : Value) (A : Around) (outer : List Env) (s : Shared) (H0 : Hp) (E : XK) : Cx := (cxOf CX0 P w K mg base nWo "World.__init__" (defScope sWoI) f cdv A outer s H0 E).nox
/-- the arguments -/
structure WTr (H0 : Hp) (CR d : Addr) (kvs : List (Key × V)) (es : List (Str × Bool)) : Prop where
  hd : H0 d = some (.dK kvs)
  en : EnsAt CR H0 kvs es
  good : (es.map enB).all id = true
  one : 1 ≤ kvs.length
  few : kvs.length ≤ 8
  nd : ∀ kv ∈ kvs, kv.2 ≠ .ref d
theorem WTr.at {H0 : Hp} {CR d : Addr} {kvs : List (Key × V)} {es : List (Str × Bool)} {K : PySem.W.Frag} (W : WTr H0 CR d kvs es) : TrsAt K CR H0 (.ref d) true := by
  have h := TrsAt.dic (K := K) W.hd W.en (Nat.le_trans W.few (by decide)) W.nd
  have h1 := W.one
  have h2 := W.few
  rw [W.good, decide_eq_true (by omega : 1 ≤ (kvs.length : Int)), decide_eq_true (by omega : (kvs.length : Int) ≤ 8)] at h
  exact h
theorem WTr.keys {H0 : Hp} {CR d : Addr} {kvs : List (Key × V)} {es : List (Str × Bool)} (W : WTr H0 CR d kvs es) : kvs.map Prod.fst = (es.map Prod.fst).map Sum.inr := by
  refine List.ext_getElem? fun i => ?_
  rw [List.getElem?_map, List.map_map, List.getElem?_map]
  cases e1 : kvs[i]? with
  | none =>
    have : es[i]? = none := by
      rw [List.getElem?_eq_none_iff] at e1 ⊢
      rw [← W.en.1]
      exact e1
    rw [this]
    rfl
  | some kv =>
    have hi : i < es.length := by
      rw [← W.en.1]
      exact (List.getElem?_eq_some_iff.mp e1).1
    rw [List.getElem?_eq_getElem hi]
    exact congrArg some (W.en.2 i kv _ e1 (List.getElem?_eq_getElem hi)).1
theorem valV_mem {kvs : List (Key × V)} {k : Key} (h : k ∈ kvs.map Prod.fst) : ∃ v, valV kvs k = some v := by
  induction kvs with
  | nil => cases h
  | cons kv r ih =>
    by_cases e : kv.1 = k
    · exact ⟨kv.2, by simp [valV, e]⟩
    · obtain ⟨v, hv⟩ := ih (by
        rcases List.mem_cons.mp h with z | z
        · exact absurd z.symm e
        · exact z)
      exact ⟨v, by simpa [valV, e] using hv⟩
structure WArg (H0 : Hp) (CW CR x dx d : Addr) (kvs : List (Key × V)) (es : List (Str × Bool)) (z : Str) (mo : Int) : Prop where
  hx : H0 x = some (.ins CW dx [])
  tr : WTr H0 CR d kvs es
  hz : nameB z = true
  hl : z.length ≤ 100000
  zin : (Sum.inr z : Key) ∈ kvs.map Prod.fst
  ne : ∀ kv ∈ kvs, kv.2 ≠ .ref x
  m1 : 1 ≤ mo
  m2 : mo ≤ 5000
theorem WArg.nd {H0 : Hp} {CW CR x dx d : Addr} {kvs : List (Key × V)} {es : List (Str × Bool)} {z : Str} {mo : Int} (W : WArg H0 CW CR x dx d kvs es z mo) : d ≠ x := ne_of W.tr.hd W.hx (by intro z; cases z)
theorem WArg.trb {H0 H : Hp} {CW CR x dx d : Addr} {kvs : List (Key × V)} {es : List (Str × Bool)} {z : Str} {mo : Int} (W : WArg H0 CW CR x dx d kvs es z mo) (b : But x H0 H) : WTr H CR d kvs es :=
  ⟨b d _ W.nd W.tr.hd, W.tr.en.mono fun kv hk a o e h => b a o (fun z => W.ne kv hk (by rw [e, z])) h, W.tr.good, W.tr.one, W.tr.few, W.tr.nd⟩
abbrev sW0 (x d : Addr) (z : Str) (mo : Int) (top : Option V) : L2.St := [some (.ref x), some (.ref d), some (.str z), some (.int mo), top, none]
/-- a new object -/
def New (H0 : Hp) (x : Addr) (H : Hp) (p : Addr) (o : HO) : Prop := H0 p = none ∧ p ≠ x ∧ H p = some o
section
variable {P : Program} {w : World} {K : PySem.W.Frag} {mg : Str → Option Value} {base : Heap} {f : Addr} {cdv : Value} {A : Around} {outer : List Env} {s : Shared} {H0 : Hp} {E : XK} {CW CT CM CR x dx d : Addr} {kvs : List (Key × V)} {es : List (Str × Bool)} {z : Str} {mo : Int}
theorem hWo0 (C : WoC P w K mg base CW CT CM CR) (W : WArg H0 CW CR x dx d kvs es z mo) (hr : Room 6 (XWo P w K mg base f cdv A outer s H0 E).A) : Ho (XWo P w K mg base f cdv A outer s H0 E) (stW 0) (Fd (sW0 x d z mo none) H0 x CW dx [] 0) (Fd (sW0 x d z mo none) H0 x CW dx [] 0) := by
  refine ⟨_, ps_if (PW.pt (pw_or (pt_not (pt_val (pe_cl C.trees hr (by decide) (by rfl) pass0 (pa_cons (pv 1) pa_nil)))) (pw_or (pt_not (pt_val (pe_cl C.name hr (by decide) (by rfl) pass0 (pa_cons (pv 2) pa_nil)))) (pw_or1 (pt_cmp (pc_dnotin (units1 hr) (pv 2) (pv 1))))))) pss_never pss_nil, ?_⟩
  rintro D σ H ⟨rfl, b, hx, hn⟩ q
  have T := W.trb b
  refine ⟨_, rfl, _, true, rfl, T.at, fun H1 s1 => ⟨_, rfl, iteF ?_⟩⟩
  refine ⟨_, rfl, _, _, rfl, .str z W.hl, fun H2 s2 => ?_⟩
  rw [W.hz]
  obtain ⟨v, hv⟩ := valV_mem W.zin
  have sm := s1.trans s2
  refine ⟨_, rfl, iteF ⟨_, rfl, _, rfl, d, _, rfl, DGet.k (k := (Sum.inr z : Key)) (sm _ _ T.hd), _, rfl, ?_⟩⟩
  rw [hv]
  exact iteF (q _ _ ⟨rfl, b.trans (Same.but x sm), sm _ _ hx, hn⟩)
theorem hWo1 (C : WoC P w K mg base CW CT CM CR) (W : WArg H0 CW CR x dx d kvs es z mo) (hr : Room 6 (XWo P w K mg base f cdv A outer s H0 E).A) : Ho (XWo P w K mg base f cdv A outer s H0 E) (stW 1) (Fd (sW0 x d z mo none) H0 x CW dx [] 0) (Fd (sW0 x d z mo none) H0 x CW dx [] 0) := by
  refine ⟨_, ps_if (pt_not (pt_val (pe_cl C.whole hr (by decide) (by rfl) pass0 (pa_cons (pv 3) (pa_cons pe_int (pa_cons pe_int pa_nil)))))) pss_never pss_nil, ?_⟩
  rintro D σ H ⟨rfl, b, hx, hn⟩ q
  refine ⟨_, rfl, _, _, _, _, rfl, .int mo 1 5000, _, rfl, ?_⟩
  rw [decide_eq_true W.m1, decide_eq_true W.m2]
  exact iteF (q _ _ ⟨rfl, b, hx, hn⟩)
def GW3 (H0 : Hp) (x CW dx d : Addr) (z : Str) (mo : Int) : L2.St → Hp → Prop := fun σ H => σ = sW0 x d z mo none ∧ ∃ l1, But x H0 H ∧ H x = some (.ins CW dx [("first", .str z), ("deeds", .ref l1)]) ∧ New H0 x H l1 (.lst [])
def GW4 (H0 : Hp) (x CW dx d : Addr) (z : Str) (mo : Int) : L2.St → Hp → Prop := fun σ H => σ = sW0 x d z mo none ∧ ∃ l1 l2, But x H0 H ∧ H x = some (.ins CW dx [("first", .str z), ("deeds", .ref l1), ("sessions", .ref l2)]) ∧ New H0 x H l1 (.lst []) ∧ New H0 x H l2 (.lst [])
theorem hWo3 (C : WoC P w K mg base CW CT CM CR) : Ho (XWo P w K mg base f cdv A outer s H0 E) (stW 3) (Fd (sW0 x d z mo none) H0 x CW dx [("first", .str z)] 1) (GW3 H0 x CW dx d z mo) := by
  refine ⟨_, ps_fld (pv 0) (pe_lst pa_nil) rfl, ?_⟩
  rintro D σ H ⟨rfl, b, hx, hn⟩ q
  refine ⟨by show 0 ≤ sizeLine; decide, fun l1 h1 => ?_⟩
  have hz := But.none b hx h1
  refine ⟨_, rfl, x, CW, dx, _, rfl, (by rw [upd_ne (ne_of_none hx h1)]; exact hx), C.cW.cl, C.cW.no _ (by decide +kernel), by show 1 < 1000; decide, q _ _ ⟨rfl, l1, (b.trans (But.new h1)).trans But.upd, upd_same, hz.1, hz.2, ?_⟩⟩
  rw [upd_ne hz.2]
  exact upd_same
theorem hWo4 (C : WoC P w K mg base CW CT CM CR) : Ho (XWo P w K mg base f cdv A outer s H0 E) (stW 4) (GW3 H0 x CW dx d z mo) (GW4 H0 x CW dx d z mo) := by
  refine ⟨_, ps_fld (pv 0) (pe_lst pa_nil) rfl, ?_⟩
  rintro D σ H ⟨rfl, l1, b, hx, n1, n2, n3⟩ q
  refine ⟨by show 0 ≤ sizeLine; decide, fun l2 h2 => ?_⟩
  have hz := But.none b hx h2
  refine ⟨_, rfl, x, CW, dx, _, rfl, (by rw [upd_ne (ne_of_none hx h2)]; exact hx), C.cW.cl, C.cW.no _ (by decide +kernel), by show 2 < 1000; decide, q _ _ ⟨rfl, l1, l2, (b.trans (But.new h2)).trans But.upd, upd_same, ⟨n1, n2, ?_⟩, hz.1, hz.2, ?_⟩⟩
  · rw [upd_ne n2, upd_ne (ne_of_none n3 h2)]
    exact n3
  · rw [upd_ne hz.2]
    exact upd_same
/-- the table that is made -/
structure GT5 (H0 : Hp) (x CW dx d : Addr) (trs : List (Key × V)) (z : Str) (mo : Int) (CT : Addr) (H : Hp) (l1 l2 T dT tr ct : Addr) (ds : List Addr) : Prop where
  b : But x H0 H
  hx : H x = some (.ins CW dx (woF (.str z) (.ref l1) (.ref l2) (.ref T)))
  n1 : New H0 x H l1 (.lst [])
  n2 : New H0 x H l2 (.lst [])
  nT : New H0 x H T (.ins CT dT (pT7 (.ref tr) (.int mo) ds ++ ([("counts", V.ref ct)] : List (Str × V))))
  nr : New H0 x H tr (.dK trs)
  len : ds.length = 7
  nd : ∀ q ∈ ds, New H0 x H q (.dK [])
  nu : ds.Nodup
  nc : New H0 x H ct (.dK (cntK 0 0 0))
  cd : ct ∉ ds
  rd : tr ∉ ds
  rc : tr ≠ ct
def GW5 (H0 : Hp) (x CW dx d : Addr) (z : Str) (mo : Int) (CT : Addr) : L2.St → Hp → Prop := fun σ H => σ = sW0 x d z mo none ∧ ∃ l1 l2 T dT tr ct ds trs, GT5 H0 x CW dx d trs z mo CT H l1 l2 T dT tr ct ds
theorem hWo5 (C : WoC P w K mg base CW CT CM CR) (B : Bi mg) (W : WArg H0 CW CR x dx d kvs es z mo) (hr : Room 6 (XWo P w K mg base f cdv A outer s H0 E).A) : Ho (XWo P w K mg base f cdv A outer s H0 E) (stW 5) (GW4 H0 x CW dx d z mo) (GW5 H0 x CW dx d z mo CT) := by
  obtain ⟨fI, fdI, MK, FI, bI⟩ := C.mkT
  refine ⟨_, ps_fld (pv 0) (pe_make MK FI (hr.mono (by decide)) (by rfl) C.gT bI .nil pass0 (pa_cons (pe_dc (own := [("name", 5)]) (g := gName 5) (tt := tYes) (by rfl) scWoI.nd (pi_list (pe_callB (call_sortedD rfl) (by rfl) B.sorted boot_sorted (pa_cons (pv 1) pa_nil))) (blkOk_by (own := [("name", 5)]) (N := nWo) (sc := defScope sWoI) (by decide +kernel)) (fun _ _ _ _ _ => pg_name (i := 5) scWoI.nd rfl (Or.inl rfl)) (fun _ _ _ _ _ => pts_nil)
    (fun _ _ _ _ _ => pv 5) (fun _ _ _ _ _ => pe_dget (units1 hr) (pv 1) (pv 5) (fun _ _ => rfl))) (pa_cons (pv 3) pa_nil))) rfl, ?_⟩
  rintro D0 σ H ⟨rfl, l1, l2, b, hx, ⟨p1, p2, p3⟩, p4, p5, p6⟩ q
  have T5 := W.trb b
  have hd1 := T5.hd
  refine ⟨_, rfl, d, _, es.map Prod.fst, rfl, .inl hd1, T5.keys, by rw [List.length_map, ← T5.en.1]; exact Nat.lt_of_le_of_lt T5.few (by decide), fun ys p hp hs hpn => ?_⟩
  have hyl : ys.length ≤ 8 := by
    rw [hp.length_eq, List.length_map, ← T5.en.1]
    exact T5.few
  have sp := same_new (o := HO.lst (ys.map V.str)) hpn
  refine ⟨p, rfl, ⟨_, SqL.of upd_same⟩, fun D hD => dc_it (walk_list (K := K) (a := p) (xs := ys.map V.str)) (fun i H' => (∃ kv : List (Key × V), H' D = some (.dK kv) ∧ kv.length ≤ i) ∧ Same (upd H p (.lst (ys.map V.str))) H') ⟨⟨[], upd_same, Nat.le_refl _⟩, same_new hD⟩ (fun i H' _ h => SqL.of (h.2 _ _ upd_same)) ?_ ?_⟩
  · rintro i y H1 H2 hi ⟨⟨kv, h3, hkl⟩, sm⟩ ⟨rfl, hy⟩
    have hi2 : i < ys.length := by simpa using hi
    have hy2 : y = .str ys[i] := by
      have := hy
      rw [List.getElem?_map, List.getElem?_eq_getElem hi2] at this
      exact (Option.some.inj this).symm
    subst hy2
    have hm : (Sum.inr ys[i] : Key) ∈ kvs.map Prod.fst := by
      rw [T5.keys]
      exact List.mem_map.mpr ⟨ys[i], hp.subset (List.getElem_mem hi2), rfl⟩
    obtain ⟨v, hv⟩ := valV_mem hm
    have hlen : (putK kv (Sum.inr ys[i] : Key) v).length ≤ i + 1 := by
      have := length_mergeK [((Sum.inr ys[i] : Key), v)] kv
      have e : mergeK kv [((Sum.inr ys[i] : Key), v)] = putK kv (Sum.inr ys[i]) v := rfl
      rw [e] at this
      simp only [List.length_cons, List.length_nil] at this
      omega
    refine ⟨rfl, _, rfl, _, rfl, _, rfl, d, v, rfl, ?_, kv, (Sum.inr ys[i] : Key), rfl, h3, (by rw [sizeLine_eq]; omega), ⟨_, upd_same, hlen⟩, same_mut hD sm⟩
    rw [← hv]
    exact DGet.k (k := (Sum.inr ys[i] : Key)) (sm _ _ (sp _ _ hd1))
  · rintro HA ⟨⟨kvA, hDA, hkA⟩, sm⟩
    have sA : Same H HA := sp.trans sm
    refine ⟨_, rfl, fun T dT hT hdT neT => ⟨T, dT, .ref D, .int mo, rfl, upd_same, fun H5 ds ct hk b5 hT5 hd5 nd ncd hct0 hctT hct => ⟨rfl, ?_⟩⟩⟩
    have hB : ∀ {e : Addr}, e ≠ T → upd (upd HA dT (.own T)) T (.ins CT dT []) e = none → HA e = none := fun {e} ne h => by
      rw [upd_ne ne] at h
      by_cases z1 : e = dT
      · rw [z1, upd_same] at h
        cases h
      · rw [upd_ne z1] at h
        exact h
    have up5 : ∀ e o, HA e = some o → H5 e = some o := fun e o h => by
      refine b5 e o (ne_of_none h hT) ?_
      rw [upd_ne (ne_of_none h hT), upd_ne (ne_of_none h hdT)]
      exact h
    have bA : But x H0 HA := b.trans (Same.but x sA)
    have hxA := sA _ _ hx
    have zT := But.none bA hxA hT
    have hx5 := up5 _ _ hxA
    have old : ∀ {e : Addr}, HA e = none → H0 e = none ∧ e ≠ x := fun h => But.none bA hxA h
    have nD : H0 D = none ∧ D ≠ x := by
      refine But.none b hx ?_
      cases e : H D with
      | none => rfl
      | some o =>
        rw [sp _ _ e] at hD
        cases hD
    have b5' : But x H0 H5 := fun e o ne h => up5 e o (bA e o ne h)
    refine ⟨_, rfl, x, CW, dx, _, rfl, hx5, C.cW.cl, C.cW.no _ (by decide +kernel), by show 3 < 1000; decide, q _ _ ⟨rfl, l1, l2, T, dT, D, ct, ds, kvA, ?_⟩⟩
    refine ⟨b5'.trans But.upd, upd_same, ⟨p1, p2, ?_⟩, ⟨p4, p5, ?_⟩, ⟨zT.1, zT.2, ?_⟩, ⟨nD.1, nD.2, ?_⟩, hk, fun e he => ?_, nd, ?_, ncd, fun he => ?_, fun he => ?_⟩
    · rw [upd_ne p2]
      exact up5 _ _ (sA _ _ p3)
    · rw [upd_ne p5]
      exact up5 _ _ (sA _ _ p6)
    · rw [upd_ne zT.2]
      exact hT5
    · rw [upd_ne nD.2]
      exact up5 _ _ hDA
    · obtain ⟨h1, h2, h3⟩ := hd5 e he
      have z0 := old (hB h2 h1)
      exact ⟨z0.1, z0.2, by rw [upd_ne z0.2]; exact h3⟩
    · have z0 := old (hB hctT hct0)
      exact ⟨z0.1, z0.2, by rw [upd_ne z0.2]; exact hct⟩
    · obtain ⟨h1, h2, h3⟩ := hd5 D he
      have := hB h2 h1
      rw [hDA] at this
      cases this
    · subst he
      have := hB hctT hct0
      rw [hDA] at this
      cases this
end
end Tx
set_option Elab.async false
set_option linter.all false
set_option maxRecDepth 100000
set_option maxHeartbeats 8000000
namespace Tx
open PySem PySem.Spec PyProof.Rows L2 Cm Ob
structure Ad where
  (T dT tr kn pl tp ow ms mb bh ct m dm e rt : Addr)
/-- a table with one mount, of the tree z -/
structure TAt (H : Hp) (CT CM : Addr) (a : List (Key × V)) (z : Str) (mo : Int) (A : Ad) : Prop where
  hT : H A.T = some (.ins CT A.dT (tbF (.ref A.tr) (.int mo) (.ref A.kn) (.ref A.pl) (.ref A.tp) (.ref A.ow) (.ref A.ms) (.ref A.mb) (.ref A.bh) (.ref A.ct)))
  tr : H A.tr = some (.dK a)
  kn : H A.kn = some (.dK [((Sum.inl 0 : Key), .ref A.m)])
  pl : H A.pl = some (.dK [((Sum.inl 0 : Key), .ref A.e)])
  tp : H A.tp = some (.dK [((Sum.inl 0 : Key), .int 0)])
  ow : H A.ow = some (.dK [((Sum.inl 0 : Key), .int 0)])
  ms : H A.ms = some (.dK [])
  mb : H A.mb = some (.dK [])
  bh : H A.bh = some (.dK [])
  ct : H A.ct = some (.dK (cntK 1 0 1))
  hm : H A.m = some (.ins CM A.dm (mtF (.int 0) (.int 0) (.str z) (.ref A.rt) .non .non .non .non (.bl false) (.bl false) (.int 0)))
  e : H A.e = some (.dK [])
  rt : H A.rt = some (.tup [])
theorem TAt.same {H H' : Hp} {CT CM : Addr} {a : List (Key × V)} {z : Str} {mo : Int} {A : Ad} (t : TAt H CT CM a z mo A) (s : Same H H') : TAt H' CT CM a z mo A :=
  ⟨s _ _ t.hT, s _ _ t.tr, s _ _ t.kn, s _ _ t.pl, s _ _ t.tp, s _ _ t.ow, s _ _ t.ms, s _ _ t.mb, s _ _ t.bh, s _ _ t.ct, s _ _ t.hm, s _ _ t.e, s _ _ t.rt⟩
/-- a world that has begun -/
structure WAt (H : Hp) (CW CT CM : Addr) (a : List (Key × V)) (z : Str) (mo : Int) (x dx l1 l2 : Addr) (A : Ad) : Prop where
  hx : H x = some (.ins CW dx (woF (.str z) (.ref l1) (.ref l2) (.ref A.T)))
  h1 : H l1 = some (.lst [])
  h2 : H l2 = some (.lst [])
  t : TAt H CT CM a z mo A
theorem WAt.same {H H' : Hp} {CW CT CM : Addr} {a : List (Key × V)} {z : Str} {mo : Int} {x dx l1 l2 : Addr} {A : Ad} (t : WAt H CW CT CM a z mo x dx l1 l2 A) (s : Same H H') : WAt H' CW CT CM a z mo x dx l1 l2 A :=
  ⟨s _ _ t.hx, s _ _ t.h1, s _ _ t.h2, t.t.same s⟩
/-- no whole number from 1 to 5000 -/
def NoMost (K : PySem.W.Frag) (H : Hp) (v : V) : Prop := Wh K H v 1 5000 false
inductive WoIn (K : PySem.W.Frag) (CW CT CM CR CN CU x : Addr) (vs : List V) (H : Hp) (Q : VK) (E : XK) : Prop
  | good (dx d : Addr) (kvs : List (Key × V)) (es : List (Str × Bool)) (z : Str) (mo : Int) (e : vs = [.ref x, .ref d, .str z, .int mo]) (W : WArg H CW CR x dx d kvs es z mo) (q : ∀ H' l1 l2 A a, But x H H' → H A.tr = none → WAt H' CW CT CM a z mo x dx l1 l2 A → Q .non H')
  | trees (tv fv mv : V) (e : vs = [.ref x, tv, fv, mv]) (h : TrsAt K CR H tv false) (q : ∀ H', Same H H' → E (.ref CN) none H')
  | first (tv fv mv : V) (e : vs = [.ref x, tv, fv, mv]) (h : TrsAt K CR H tv true) (h2 : ∀ H', Same H H' → Tn K H' nameB fv false) (q : ∀ H', Same H H' → E (.ref CN) none H')
  | most (d : Addr) (kvs : List (Key × V)) (es : List (Str × Bool)) (z : Str) (mv : V) (e : vs = [.ref x, .ref d, .str z, mv]) (T : WTr H CR d kvs es) (hz : nameB z = true) (hl : z.length ≤ 100000) (zin : (Sum.inr z : Key) ∈ kvs.map Prod.fst) (h : ∀ H', Same H H' → NoMost K H' mv) (q : ∀ H', Same H H' → E (.ref CU) none H')
def spWoI (K : PySem.W.Frag) (CW CT CM CR CN CU : Addr) : Sp := fun vs H Q E => ∃ x, WoIn K CW CT CM CR CN CU x vs H Q E
section
variable {P : Program} {w : World} {K : PySem.W.Frag} {mg : Str → Option Value} {base : Heap} {f : Addr} {cdv : Value} {A : Around} {outer : List Env} {s : Shared} {H0 : Hp} {E : XK} {CW CT CM CR x dx d : Addr} {kvs : List (Key × V)} {es : List (Str × Bool)} {z : Str} {mo : Int}
theorem hWo6 (C : WoC P w K mg base CW CT CM CR) (W : WArg H0 CW CR x dx d kvs es z mo) (hr : Room 6 (XWo P w K mg base f cdv A outer s H0 E).A) (R : Hp → Prop) (hR : ∀ H' l1 l2 A a, But x H0 H' → H0 A.tr = none → WAt H' CW CT CM a z mo x dx l1 l2 A → R H') : HoS (XWo P w K mg base f cdv A outer s H0 E) [stW 6, stW 7, stW 8, stW 9] (GW5 H0 x CW dx d z mo CT) (fun _ H => R H) := by
  obtain ⟨fN, fdN, mN, FN, bN⟩ := C.newM
  obtain ⟨fX, fdX, mX, FX, bX⟩ := C.next
  have hu := units1 hr
  refine ⟨_, pss_cons (ps_set (i := 4) scWoI.nd rfl (.inl rfl) (pe_meth (pe_fld (pv 0) rfl) C.cT.cl mN FN (hr.mono (by decide)) bN .nil pass0 (pa_cons pe_int (pa_cons (pv 2) (pa_cons (pe_tup pa_nil) pa_nil)))))
    (pss_cons (ps_fld (pv 4) (pe_meth (pe_fld (pv 0) rfl) C.cT.cl mX FX (hr.mono (by decide)) bX .nil pass0 (pa_cons pe_str pa_nil)) rfl)
    (pss_cons (ps_dput hu (pe_fld (pe_fld (pv 0) rfl) rfl) pe_int (pe_fld (pv 4) rfl) rfl)
    (pss_one (ps_dput hu (pe_fld (pe_fld (pv 0) rfl) rfl) pe_int pe_int rfl)))), ?_⟩
  rintro D0 σ H ⟨rfl, l1, l2, T, dT, tr, ct, ds, trs, G⟩ q
  obtain ⟨b, hx, n1, n2, nT, nr, len, nd, nu, nc, cd, rd, rc⟩ := G
  match ds, len with
  | [kn, pl, tp, ow, ms, mb, bh], _ =>
  simp only [List.nodup_cons, List.mem_cons, List.not_mem_nil, or_false, not_or] at nu cd rd
  obtain ⟨⟨k1, k2, k3, k4, k5, k6⟩, ⟨q2, q3, q4, q5, q6⟩, ⟨t3, t4, t5, t6⟩, ⟨o4, o5, o6⟩, ⟨u5, u6⟩, v6, _, _⟩ := nu
  obtain ⟨c0, c1, c2, c3, c4, c5, c6⟩ := cd
  obtain ⟨r0, r1, r2, r3, r4, r5, r6⟩ := rd
  have Nk := nd kn (by simp)
  have Np := nd pl (by simp)
  have Nt := nd tp (by simp)
  have No' := nd ow (by simp)
  have Ns := nd ms (by simp)
  have Nb := nd mb (by simp)
  have Nh := nd bh (by simp)
  refine ⟨_, rfl, x, CW, dx, _, .ref T, rfl, hx, C.cW.cl, C.cW.no _ (by decide +kernel), rfl, T, dT, _, rfl, nT.2.2, rfl, _, rfl, by show 0 ≤ sizeLine; decide, fun rt hrt => ?_⟩
  have s1 := same_new (o := HO.tup []) hrt
  have hrt1 : upd H rt (.tup []) rt = some (.tup []) := upd_same
  have b1 : But x H0 (upd H rt (.tup [])) := b.trans (Same.but x s1)
  have zrt := But.none b hx hrt
  generalize hH1 : upd H rt (.tup []) = H1 at s1 hrt1 b1 ⊢
  have hT1 := s1 _ _ nT.2.2
  have nrtk : ∀ {e o}, H e = some o → e ≠ rt := fun h => ne_of_none h hrt
  refine ⟨T, dT, _, ct, kn, pl, cntK 0 0 0, [], [], 0, .int 0, .str z, .ref rt, rfl, hT1, rfl, rfl, rfl, rfl, s1 _ _ nc.2.2, rfl, by show 3 ≤ 100; decide, s1 _ _ Nk.2.2, by show 0 ≤ 10000; decide, s1 _ _ Np.2.2, by show 0 ≤ 10000; decide, c0, c1, k1, ?_⟩
  intro H6 m dm e b6 hm0 he0 hm6 he6 hct6 hkn6 hpl6 nme
  have hx1 := s1 _ _ hx
  have zm := But.none b1 hx1 hm0
  have ze := But.none b1 hx1 he0
  -- what is not touched
  have nTk : T ≠ kn := ne_of nT.2.2 Nk.2.2 (by intro z; cases z)
  have nTp : T ≠ pl := ne_of nT.2.2 Np.2.2 (by intro z; cases z)
  have nTc : T ≠ ct := ne_of nT.2.2 nc.2.2 (by intro z; cases z)
  have nTt : T ≠ tp := ne_of nT.2.2 Nt.2.2 (by intro z; cases z)
  have nTo : T ≠ ow := ne_of nT.2.2 No'.2.2 (by intro z; cases z)
  have ld : ∀ {l e' : Addr} {kv}, H l = some (.lst []) → H e' = some (.dK kv) → l ≠ e' := fun h1 h2 => ne_of h1 h2 (by intro z; cases z)
  have up6 : ∀ {g : Addr} {o}, H g = some o → g ≠ ct → g ≠ kn → g ≠ pl → H6 g = some o := fun {g o} h a1 a2 a3 => b6 g o a1 a2 a3 (s1 _ _ h)
  have hT6 := up6 nT.2.2 nTc nTk nTp
  have hx6 : H6 x = some _ := up6 hx (Ne.symm nc.2.1) (Ne.symm Nk.2.1) (Ne.symm Np.2.1)
  refine ⟨_, rfl, x, CW, dx, _, .ref T, rfl, hx6, C.cW.cl, C.cW.no _ (by decide +kernel), rfl, T, dT, _, rfl, hT6, rfl, T, dT, _, ct, _, "stem", 0, rfl, hT6, rfl, hct6, rfl, by show 3 ≤ 100; decide, fun H7 b7 hct7 => ?_⟩
  have mg0 : ∀ {g : Addr} {o}, H1 g = some o → g ≠ m := fun h => ne_of_none h hm0
  have me0 : ∀ {g : Addr} {o}, H1 g = some o → g ≠ e := fun h => ne_of_none h he0
  have up7 : ∀ {g : Addr} {o}, H g = some o → g ≠ ct → g ≠ kn → g ≠ pl → H7 g = some o := fun {g o} h a1 a2 a3 => b7 g o a1 (up6 h a1 a2 a3)
  have nmc : m ≠ ct := Ne.symm (mg0 (s1 _ _ nc.2.2))
  have nec : e ≠ ct := Ne.symm (me0 (s1 _ _ nc.2.2))
  have hm7 := b7 m _ nmc hm6
  have he7 := b7 e _ nec he6
  have hkn7 := b7 kn _ (Ne.symm c0) hkn6
  have hpl7 := b7 pl _ (Ne.symm c1) hpl6
  have hT7 := b7 T _ nTc hT6
  have hx7 := b7 x _ (Ne.symm nc.2.1) hx6
  have htp7 := up7 Nt.2.2 (Ne.symm c2) (Ne.symm k2) (Ne.symm q2)
  have how7 := up7 No'.2.2 (Ne.symm c3) (Ne.symm k3) (Ne.symm q3)
  have nmt : m ≠ tp := Ne.symm (mg0 (s1 _ _ Nt.2.2))
  have nmo : m ≠ ow := Ne.symm (mg0 (s1 _ _ No'.2.2))
  have nmk : m ≠ kn := Ne.symm (mg0 (s1 _ _ Nk.2.2))
  have nmp : m ≠ pl := Ne.symm (mg0 (s1 _ _ Np.2.2))
  have nTm : T ≠ m := mg0 hT1
  have nxm : x ≠ m := mg0 hx1
  refine ⟨_, rfl, m, CM, dm, _, rfl, hm7, C.cM.cl, C.cM.no _ (by decide +kernel), by show 11 < 1000; decide, ?_⟩
  -- s8
  have hm8 : ∀ o, upd H7 m o m = some o := fun o => upd_same
  have hx8 : ∀ o, upd H7 m o x = some _ := fun o => by
    rw [upd_ne nxm]
    exact hx7
  have hT8 : ∀ o, upd H7 m o T = some _ := fun o => by
    rw [upd_ne nTm]
    exact hT7
  refine ⟨_, rfl, m, CM, dm, _, .int 0, rfl, upd_same, C.cM.cl, C.cM.no _ (by decide +kernel), rfl, _, rfl, x, CW, dx, _, .ref T, rfl, hx8 _, C.cW.cl, C.cW.no _ (by decide +kernel), rfl, T, CT, dT, _, .ref tp, rfl, hT8 _, C.cT.cl, C.cT.no _ (by decide +kernel), rfl, tp, _, rfl, DPut.k (k := (Sum.inl 0 : Key)) (kvs := []) (by rw [upd_ne (Ne.symm nmt)]; exact htp7) (by decide), ?_⟩
  have nxt : x ≠ tp := Ne.symm Nt.2.1
  refine ⟨_, rfl, x, CW, dx, _, .ref T, rfl, (by rw [upd_ne nxt]; exact hx8 _), C.cW.cl, C.cW.no _ (by decide +kernel), rfl, T, CT, dT, _, .ref ow, rfl, (by rw [upd_ne nTt]; exact hT8 _), C.cT.cl, C.cT.no _ (by decide +kernel), rfl, ow, _, rfl, DPut.k (k := (Sum.inl 0 : Key)) (kvs := []) (by rw [upd_ne (Ne.symm t3), upd_ne (Ne.symm nmo)]; exact how7) (by decide), ?_⟩
  have fin : ∀ {g : Addr} {o} (o1 o2 o3 : HO), H7 g = some o → g ≠ m → g ≠ tp → g ≠ ow → upd (upd (upd H7 m o1) tp o2) ow o3 g = some o := fun {g o} o1 o2 o3 h a1 a2 a3 => by
    rw [upd_ne a3, upd_ne a2, upd_ne a1]
    exact h
  have lst7 : ∀ {l : Addr}, New H0 x H l (.lst []) → ∀ (o1 o2 o3 : HO), upd (upd (upd H7 m o1) tp o2) ow o3 l = some (.lst []) := fun {l} n o1 o2 o3 =>
    fin o1 o2 o3 (up7 n.2.2 (ld n.2.2 nc.2.2) (ld n.2.2 Nk.2.2) (ld n.2.2 Np.2.2)) (mg0 (s1 _ _ n.2.2)) (ld n.2.2 Nt.2.2) (ld n.2.2 No'.2.2)
  have dk7 : ∀ {l : Addr} {kv}, H l = some (.dK kv) → l ≠ ct → l ≠ kn → l ≠ pl → l ≠ tp → l ≠ ow → ∀ (o1 o2 o3 : HO), upd (upd (upd H7 m o1) tp o2) ow o3 l = some (.dK kv) := fun {l kv} h a1 a2 a3 a4 a5 o1 o2 o3 => fin o1 o2 o3 (up7 h a1 a2 a3) (mg0 (s1 _ _ h)) a4 a5
  refine q _ _ (hR _ l1 l2 ⟨T, dT, tr, kn, pl, tp, ow, ms, mb, bh, ct, m, dm, e, rt⟩ trs ?_ nr.1 ⟨?_, lst7 n1 _ _ _, lst7 n2 _ _ _, ?_⟩)
  · intro g o ne h
    have ng : ∀ {p' : Addr} {o'}, New H0 x H p' o' → g ≠ p' := fun n z => by
      rw [z, n.1] at h
      cases h
    have nm' : g ≠ m := fun z => by
      rw [z, zm.1] at h
      cases h
    exact fin _ _ _ (up7 (b g o ne h) (ng nc) (ng Nk) (ng Np)) nm' (ng Nt) (ng No')
  · exact fin _ _ _ hx7 nxm nxt (Ne.symm No'.2.1)
  · refine ⟨fin _ _ _ hT7 nTm nTt nTo, dk7 nr.2.2 rc r0 r1 r2 r3 _ _ _, ?_, ?_, ?_, ?_, dk7 Ns.2.2 (Ne.symm c4) (Ne.symm k4) (Ne.symm q4) (Ne.symm t4) (Ne.symm o4) _ _ _, dk7 Nb.2.2 (Ne.symm c5) (Ne.symm k5) (Ne.symm q5) (Ne.symm t5) (Ne.symm o5) _ _ _, dk7 Nh.2.2 (Ne.symm c6) (Ne.symm k6) (Ne.symm q6) (Ne.symm t6) (Ne.symm o6) _ _ _, ?_, ?_, ?_, ?_⟩
    · exact fin _ _ _ hkn7 (Ne.symm nmk) k2 k3
    · exact fin _ _ _ hpl7 (Ne.symm nmp) q2 q3
    · rw [upd_ne t3]
      exact upd_same
    · exact upd_same
    · exact fin _ _ _ hct7 (Ne.symm nmc) c2 c3
    · rw [upd_ne nmo, upd_ne nmt]
      exact upd_same
    · exact fin _ _ _ he7 (Ne.symm nme) (Ne.symm (me0 (s1 _ _ Nt.2.2))) (Ne.symm (me0 (s1 _ _ No'.2.2)))
    · have hr7 : H7 rt = some (.tup []) := b7 rt _ (Ne.symm (nrtk nc.2.2)) (b6 rt _ (Ne.symm (nrtk nc.2.2)) (Ne.symm (nrtk Nk.2.2)) (Ne.symm (nrtk Np.2.2)) hrt1)
      exact fin _ _ _ hr7 (mg0 hrt1) (Ne.symm (nrtk Nt.2.2)) (Ne.symm (nrtk No'.2.2))
end
section
variable {P : Program} {w : World} {K : PySem.W.Frag} {mg : Str → Option Value} {base : Heap} {f : Addr} {fd : FuncData} {CW CT CM CR : Addr}
theorem ok_woI {CN CU : Addr} {dvs : List V} (F : FunD K "__init__" "World.__init__" (defArgs sWoI) (defBody sWoI) (defScope sWoI) dvs [] f fd) (B : Bi mg) (C : WoC P w K mg base CW CT CM CR) (eN : Ec K mg "NoTree" CN) (eU : Ec K mg "NoNumber" CU) : FnOk P w K mg base (L2.CX P w) 7 f fd ["self", "trees", "first", "most"] (spWoI K CW CT CM CR CN CU) := by
  refine F.ok (CX := L2.CX P w) scWoI (fun vs H Q E h => ?_) (fun cdv A outer s H vs Q E hr h => ?_)
  · obtain ⟨x, h⟩ := h
    cases h with
    | good _ _ _ _ _ _ e => rw [e] <;> rfl
    | trees _ _ _ e => rw [e] <;> rfl
    | first _ _ _ e => rw [e] <;> rfl
    | most _ _ _ _ _ e => rw [e] <;> rfl
  · obtain ⟨x, h⟩ := h
    cases h with
    | good dx d kvs es z mo e W q =>
      subst e
      have hr' : Room 6 (XWo P w K mg base f cdv A outer s H E).A := hr
      obtain ⟨t, ht, hq⟩ : HoS (XWo P w K mg base f cdv A outer s H E) [stW 0, stW 1, stW 2, stW 3, stW 4, stW 5, stW 6, stW 7, stW 8, stW 9] (Fd (sW0 x d z mo none) H x CW dx [] 0) (fun _ H' => Q .non H') := by
        refine HoS.cons (hWo0 C W hr') (HoS.cons (hWo1 C W hr') (HoS.cons ?_ (HoS.cons (hWo3 C) (HoS.cons (hWo4 C) (HoS.cons (hWo5 C B W hr') (hWo6 C W hr' (fun H' => Q .non H') q))))))
        exact ho_fld (i := 0) (v := .str z) (pv 0) rfl (pv 2) (fun H Q h => ⟨_, rfl, h⟩) C.cW.cl (C.cW.no _ (by decide +kernel)) (by decide) rfl
      rw [bodyWoI]
      exact ⟨t, PSs.nox (X := cxOf (L2.CX P w) P w K mg base nWo "World.__init__" (defScope sWoI) f cdv A outer s H E) ht, hq _ _ _ ⟨rfl, But.refl _ _, W.hx, Nat.le_refl _⟩ fun σ' H' z => z⟩
    | trees tv fv mv e h q =>
      subst e
      rw [bodyWoI]
      refine ⟨_, pss_cons (ps_if (PW.pt (pw_or (pt_not (pt_val (pe_cl C.trees hr (by decide) (by rfl) pass0 (pa_cons (pv 1) pa_nil)))) (pw_or (pt_not (pt_val (pe_cl C.name hr (by decide) (by rfl) pass0 (pa_cons (pv 2) pa_nil)))) (pw_or1 (pt_cmp (pc_dnotin (units1 hr) (pv 2) (pv 1))))))) (pss_one (ps_raise rfl (takes_of rfl rfl rfl rfl) (pmk_own PySem.F.excBase_ValueError eN.x eN.g eN.k (raises_own eN.b eN.t) (by rfl)))) pss_nil) pss_no, ?_⟩
      exact ⟨_, rfl, _, _, rfl, h, fun H1 s1 => ⟨_, rfl, iteT (iteT (q H1 s1))⟩⟩
    | first tv fv mv e h h2 q =>
      subst e
      rw [bodyWoI]
      refine ⟨_, pss_cons (ps_if (PW.pt (pw_or (pt_not (pt_val (pe_cl C.trees hr (by decide) (by rfl) pass0 (pa_cons (pv 1) pa_nil)))) (pw_or (pt_not (pt_val (pe_cl C.name hr (by decide) (by rfl) pass0 (pa_cons (pv 2) pa_nil)))) (pw_or1 (pt_cmp (pc_dnotin (units1 hr) (pv 2) (pv 1))))))) (pss_one (ps_raise rfl (takes_of rfl rfl rfl rfl) (pmk_own PySem.F.excBase_ValueError eN.x eN.g eN.k (raises_own eN.b eN.t) (by rfl)))) pss_nil) pss_no, ?_⟩
      exact ⟨_, rfl, _, _, rfl, h, fun H1 s1 => ⟨_, rfl, iteF ⟨_, rfl, _, _, rfl, h2 H1 s1, fun H2 s2 => ⟨_, rfl, iteT (iteT (q H2 (s1.trans s2)))⟩⟩⟩⟩
    | most d kvs es z mv e T hz hl zin h q =>
      subst e
      rw [bodyWoI]
      refine ⟨_, pss_cons (ps_if (PW.pt (pw_or (pt_not (pt_val (pe_cl C.trees hr (by decide) (by rfl) pass0 (pa_cons (pv 1) pa_nil)))) (pw_or (pt_not (pt_val (pe_cl C.name hr (by decide) (by rfl) pass0 (pa_cons (pv 2) pa_nil)))) (pw_or1 (pt_cmp (pc_dnotin (units1 hr) (pv 2) (pv 1))))))) (pss_one (ps_raise rfl (takes_of rfl rfl rfl rfl) (pmk_own PySem.F.excBase_ValueError eN.x eN.g eN.k (raises_own eN.b eN.t) (by rfl)))) pss_nil)
        (pss_cons (ps_if (pt_not (pt_val (pe_cl C.whole hr (by decide) (by rfl) pass0 (pa_cons (pv 3) (pa_cons pe_int (pa_cons pe_int pa_nil)))))) (pss_one (ps_raise rfl (takes_of rfl rfl rfl rfl) (pmk_own PySem.F.excBase_ValueError eU.x eU.g eU.k (raises_own eU.b eU.t) (by rfl)))) pss_nil) pss_no), ?_⟩
      refine ⟨_, rfl, _, _, rfl, T.at, fun H1 s1 => ⟨_, rfl, iteF ⟨_, rfl, _, _, rfl, .str z hl, fun H2 s2 => ?_⟩⟩⟩
      rw [hz]
      obtain ⟨v, hv⟩ := valV_mem zin
      have sm := s1.trans s2
      refine ⟨_, rfl, iteF ⟨_, rfl, _, rfl, d, _, rfl, DGet.k (k := (Sum.inr z : Key)) (sm _ _ T.hd), _, rfl, ?_⟩⟩
      rw [hv]
      refine iteF ⟨_, rfl, _, _, _, _, rfl, h H2 sm, _, rfl, iteT (q H2 sm)⟩
end
end Tx
set_option Elab.async false
set_option linter.all false
set_option maxRecDepth 100000
set_option maxHeartbeats 8000000
namespace Tx
open PySem PySem.Spec PyProof.Rows L2 Cm Ob
/-! ### Mount.kind, Table.children -/
abbrev sMtK : Stmt := inClass sMountC 2
abbrev sChild : Stmt := inClass sTableC 10
theorem scMtK : FnScope ["self", "masters"] ["self", "masters"] (defScope sMtK) := ⟨rfl, rfl, rfl, by decide +kernel, rfl, by decide +kernel, by decide +kernel⟩
theorem scChild : FnScope ["self", "number", "place"] ["self", "number"] (defScope sChild) := ⟨rfl, rfl, rfl, by decide +kernel, rfl, by decide +kernel, by decide +kernel⟩
/-- a mount without group -/
def spMtK (CM : Addr) : Sp := fun vs H Q _ => ∃ m dm n sp tr rt pa pl lo st ms, vs = [.ref m, ms] ∧ H m = some (.ins CM dm (mtF n sp tr rt pa pl .non .non (.bl false) lo st)) ∧ Q (.str "alone") H
def spChild (CT : Addr) : Sp := fun vs H Q _ => ∃ T dT fs pl kp e n, vs = [.ref T, .int n] ∧ H T = some (.ins CT dT fs) ∧ fs.lookup ("placed" : Str) = some (.ref pl) ∧ H pl = some (.dK kp) ∧ valV kp (Sum.inl n : Key) = some (.ref e) ∧ H e = some (.dK []) ∧ ∀ l H', Same H H' → H' l = some (.lst []) → H l = none → Q (.ref l) H'
section
variable {P : Program} {w : World} {K : PySem.W.Frag} {mg : Str → Option Value} {base : Heap} {CM CT : Addr}
theorem ok_mtK {f : Addr} {fd : FuncData} {k : Nat} (F : Fun K "kind" "Mount.kind" sMtK f fd) (c : Cn K CM mtN) : FnOk P w K mg base CX0 (k + 1) f fd ["self", "masters"] (spMtK CM) := by
  refine F.ok scMtK (fun vs H Q E h => ?_) (fun cdv A outer s H vs Q E hr h => ?_)
  · obtain ⟨m, dm, n, sp, tr, rt, pa, pl, lo, st, ms, rfl, _⟩ := h
    rfl
  · obtain ⟨m, dm, n, sp, tr, rt, pa, pl, lo, st, ms, rfl, hm, q⟩ := h
    refine ⟨_, pss_cons (ps_if (pt_cmpR op_notN (pe_fld (pv 0) rfl) pe_non (nomark _)) pss_never pss_nil) (pss_cons (ps_if (pt_cmpR op_notN (pe_fld (pv 0) rfl) pe_non (nomark _)) pss_never pss_nil) (pss_one (ps_ret (pe_ifExp (pt_val (pe_fld (pv 0) rfl)) pe_str pe_str)))), ?_⟩
    refine ⟨_, rfl, m, CM, dm, _, .non, rfl, hm, c.cl, c.no _ (by decide +kernel), rfl, rfl, _, rfl, iteF ?_⟩
    refine ⟨_, rfl, m, CM, dm, _, .non, rfl, hm, c.cl, c.no _ (by decide +kernel), rfl, rfl, _, rfl, iteF ?_⟩
    exact ⟨_, rfl, m, CM, dm, _, .bl false, rfl, hm, c.cl, c.no _ (by decide +kernel), rfl, _, rfl, iteF q⟩
theorem ok_child {f : Addr} {fd : FuncData} {k : Nat} (F : Fun K "children" "Table.children" sChild f fd) (B : Bi mg) (c : Cn K CT tbN) : FnOk P w K mg base CX0 (k + 1) f fd ["self", "number"] (spChild CT) := by
  refine F.ok scChild (fun vs H Q E h => ?_) (fun cdv A outer s H vs Q E hr h => ?_)
  · obtain ⟨T, dT, fs, pl, kp, e, n, rfl, _⟩ := h
    rfl
  · obtain ⟨T, dT, fs, pl, kp, e, n, rfl, hT, hl, hp, hv, he, q⟩ := h
    refine ⟨_, pss_one (ps_ret (pe_lc (own := [("place", 2)]) (g := gName 2) (tt := tYes) (by rfl) scChild.nd (pi_list (pe_callB (call_sortedD rfl) (by rfl) B.sorted boot_sorted (pa_cons (pe_dget (units1 hr) (pe_fld (pv 0) rfl) (pv 1) (fun _ _ => rfl)) pa_nil))) (blkOk_by (own := [("place", 2)]) (N := ["self", "number", "place"]) (sc := defScope sChild) (by decide +kernel)) (fun _ _ _ _ _ => pg_name (i := 2) scChild.nd rfl (Or.inl rfl)) (fun _ _ _ _ _ => pts_nil) (fun _ _ _ _ _ => pe_never))), ?_⟩
    refine ⟨_, rfl, T, CT, dT, fs, .ref pl, rfl, hT, c.cl, c.no _ (by decide +kernel), hl, _, rfl, pl, .ref e, rfl, ?_, e, [], [], rfl, .inl he, rfl, by decide, fun ys p hy hs hp1 => ?_⟩
    · rw [← hv]
      exact DGet.k (k := (Sum.inl n : Key)) hp
    · have ey : ys = [] := List.perm_nil.mp hy
      subst ey
      refine ⟨p, rfl, ⟨_, SqL.of upd_same⟩, fun D hD => lc_list (K := K) (a := p) (xs := []) (fun i H' => H' D = some (.lst []) ∧ Same (upd H p (.lst [])) H') ⟨upd_same, same_new hD⟩ (fun i H' _ h => SqL.of (h.2 _ _ upd_same)) ?_ ?_⟩
      · rintro i x H1 hx
        cases hx
      · rintro H1 ⟨h1, s1⟩
        refine q D H1 ((same_new hp1).trans s1) h1 ?_
        cases e1 : H D with
        | none => rfl
        | some o =>
          rw [same_new hp1 _ _ e1] at hD
          cases hD
end
/-! ### Labels -/
abbrev sLbI : Stmt := inClass sLabelsC 0
abbrev sLbG : Stmt := inClass sLabelsC 1
abbrev sLbL : Stmt := inClass sLabelsC 2
abbrev sLbF : Stmt := inClass sLabelsC 3
theorem scLbI : FnScope ["self", "table"] ["self", "table"] (defScope sLbI) := ⟨rfl, rfl, rfl, by decide +kernel, rfl, by decide +kernel, by decide +kernel⟩
theorem scLbG : FnScope ["self", "group"] ["self", "group"] (defScope sLbG) := ⟨rfl, rfl, rfl, by decide +kernel, rfl, by decide +kernel, by decide +kernel⟩
abbrev nLb : List Str := ["self", "mount", "masters", "group", "master", "stem"]
theorem scLbL : FnScope nLb ["self", "mount"] (defScope sLbL) := ⟨rfl, rfl, rfl, by decide +kernel, rfl, by decide +kernel, by decide +kernel⟩
abbrev nLf : List Str := ["self", "mount", "label", "on", "one"]
theorem scLbF : FnScope nLf ["self", "mount"] (defScope sLbF) := ⟨rfl, rfl, rfl, by decide +kernel, rfl, by decide +kernel, by decide +kernel⟩
def lbN : List Str := ["table", "groups", "stems"]
def pL0 (T : V) (ds : List Addr) : List (Str × V) := match ds with | [] => [("table", T)] | _ => []
def pL1 (T : V) (ds : List Addr) : List (Str × V) := match ds with | [a] => [("table", T), ("groups", .ref a)] | _ => []
def pL2 (T : V) (ds : List Addr) : List (Str × V) := match ds with | [a, b] => [("table", T), ("groups", .ref a), ("stems", .ref b)] | _ => []
theorem pL0_put {T : V} (ds : List Addr) (d : Addr) (h : ds.length = 0) : pL1 T (ds ++ [d]) = putF "groups" (.ref d) (pL0 T ds) := match ds, h with | [], _ => rfl
theorem pL1_put {T : V} (ds : List Addr) (d : Addr) (h : ds.length = 1) : pL2 T (ds ++ [d]) = putF "stems" (.ref d) (pL1 T ds) := match ds, h with | [_], _ => rfl
def lbF (T g st : V) : List (Str × V) := [("table", T), ("groups", g), ("stems", st)]
def spLbI (CL : Addr) : Sp := fun vs H Q _ => ∃ x dx T, vs = [.ref x, T] ∧ H x = some (.ins CL dx []) ∧ ∀ H' g st, But x H H' → H' x = some (.ins CL dx (lbF T (.ref g) (.ref st))) → H' g = some (.dK []) → H' st = some (.dK []) → g ≠ x → st ≠ x → H g = none → H st = none → g ≠ st → Q .non H'
section
variable {P : Program} {w : World} {K : PySem.W.Frag} {mg : Str → Option Value} {base : Heap} {CM CT CL : Addr}
theorem ok_lbI {f : Addr} {fd : FuncData} {k : Nat} (F : Fun K "__init__" "Labels.__init__" sLbI f fd) (c : Cn K CL lbN) : FnOk P w K mg base CX0 (k + 1) f fd ["self", "table"] (spLbI CL) := by
  refine F.ok scLbI (fun vs H Q E h => ?_) (fun cdv A outer s H vs Q E hr h => ?_)
  · obtain ⟨x, dx, T, rfl, _⟩ := h
    rfl
  · obtain ⟨x, dx, T, rfl, hx, q⟩ := h
    obtain ⟨t, ht, hq⟩ : HoS (cxOf CX0 P w K mg base ["self", "table"] "Labels.__init__" (defScope sLbI) f cdv A outer s H E).nox (defBody sLbI) (Fd [some (.ref x), some T] H x CL dx [] 0) (Fe [some (.ref x), some T] H x CL dx 3 2 (pL2 T)) := by
      refine HoS.cons (ho_fld (i := 0) (v := T) (pv 0) rfl (pv 1) (fun H Q h => ⟨_, rfl, h⟩) c.cl (c.no _ (by decide +kernel)) (by decide) rfl) ?_
      refine HoS.conseq (p := Fe [some (.ref x), some T] H x CL dx 1 0 (pL0 T)) (q := Fe [some (.ref x), some T] H x CL dx 3 2 (pL2 T)) ?_ (fun σ H1 z => ⟨[], rfl, z.1, z.2.1, z.2.2.1, z.2.2.2, by simp, by simp⟩) (fun _ _ z => z)
      refine HoS.cons (ho_dnew (i := 0) (k := 0) (pv 0) rfl c.cl (c.no _ (by decide +kernel)) (by decide) pL0_put rfl) ?_
      refine HoS.cons (ho_dnew (i := 0) (k := 1) (pv 0) rfl c.cl (c.no _ (by decide +kernel)) (by decide) pL1_put rfl) ?_
      exact HoS.nil
    refine ⟨t, ht, hq _ _ _ ⟨rfl, But.refl _ _, hx, Nat.le_refl _⟩ ?_⟩
    rintro σ' H' ⟨ds, hk, _, b, hx', _, hd, nd⟩
    match ds, hk with
    | [g, st], _ =>
      have Ng := hd g (by simp)
      have Ns := hd st (by simp)
      refine q H' g st b hx' Ng.2.2 Ns.2.2 Ng.2.1 Ns.2.1 Ng.1 Ns.1 ?_
      simp only [List.nodup_cons, List.mem_cons, List.not_mem_nil, or_false] at nd
      exact nd.1
def spLbG : Sp := fun vs H Q _ => ∃ v, vs = [v, .non] ∧ Q .non H
theorem ok_lbG {f : Addr} {fd : FuncData} {k : Nat} (F : Fun K "group_label" "Labels.group_label" sLbG f fd) : FnOk P w K mg base CX0 (k + 1) f fd ["self", "group"] spLbG := by
  refine F.ok scLbG (fun vs H Q E h => ?_) (fun cdv A outer s H vs Q E hr h => ?_)
  · obtain ⟨v, rfl, _⟩ := h
    rfl
  · obtain ⟨v, rfl, q⟩ := h
    exact ⟨_, pss_one (ps_ret (pe_ifExp (pt_cmpR op_isN (pv 1) pe_non (nomark _)) pe_non pe_never)), _, rfl, rfl, _, rfl, iteT q⟩
end
end Tx
set_option Elab.async false
set_option linter.all false
set_option maxRecDepth 100000
set_option maxHeartbeats 8000000
namespace Tx
open PySem PySem.Spec PyProof.Rows L2 Cm Ob
/-- a def called as a method -/
structure Mt (P : Program) (w : World) (K : PySem.W.Frag) (mg : Str → Option Value) (base : Heap) (k : Nat) (C : Addr) (m : Str) (ps : List Str) (sp : Sp) : Prop where
  ex : ∃ f fd, Meth K C m f ∧ FnOk P w K mg base CX0 k f fd ps sp ∧ Binds K fd ps []
def lbT : List V := [.str "alone", .non, .non, .int 0, .bl false]
/-- labels of a table, none given yet -/
structure LAt (H : Hp) (CL L dL T g st : Addr) : Prop where
  hL : H L = some (.ins CL dL (lbF (.ref T) (.ref g) (.ref st)))
  hs : H st = some (.dK [])
def spLbL (CL CT CM : Addr) : Sp := fun vs H Q _ => ∃ L dL T dT fs ms g st m dm sp tr rt, vs = [.ref L, .ref m] ∧ LAt H CL L dL T g st ∧ H T = some (.ins CT dT fs) ∧ fs.lookup ("masters" : Str) = some ms ∧ H m = some (.ins CM dm (mtF (.int 0) sp tr rt .non .non .non .non (.bl false) (.bl false) (.int 0))) ∧
  ∀ H' p, But st H H' → H' p = some (.tup lbT) → Q (.ref p) H'
section
variable {P : Program} {w : World} {K : PySem.W.Frag} {mg : Str → Option Value} {base : Heap} {CM CT CL : Addr}
theorem ok_lbL {f : Addr} {fd : FuncData} {k : Nat} (F : Fun K "label" "Labels.label" sLbL f fd) (B : Bi mg) (cL : Cn K CL lbN) (cT : Cn K CT tbN) (cM : Cn K CM mtN) (G : Mt P w K mg base 1 CL "group_label" ["self", "group"] spLbG) (Kd : Mt P w K mg base 1 CM "kind" ["self", "masters"] (spMtK CM)) : FnOk P w K mg base CX0 (k + 2) f fd ["self", "mount"] (spLbL CL CT CM) := by
  obtain ⟨fG, fdG, mG, FG, bG⟩ := G
  obtain ⟨fK, fdK, mK, FK, bK⟩ := Kd
  refine F.ok scLbL (fun vs H Q E h => ?_) (fun cdv A outer s H vs Q E hr h => ?_)
  · obtain ⟨L, dL, T, dT, fs, ms, g, st, m, dm, sp, tr, rt, rfl, _⟩ := h
    rfl
  · obtain ⟨L, dL, T, dT, fs, ms, g, st, m, dm, sp, tr, rt, rfl, ⟨hL, hs⟩, hT, hl, hm, q⟩ := h
    have hr1 : Room 1 (cxOf CX0 P w K mg base nLb "Labels.label" (defScope sLbL) f cdv A outer s H E).nox.A := hr.mono (by omega)
    refine ⟨_, pss_cons (ps_set (i := 2) scLbL.nd rfl (.inl rfl) (pe_fld (pe_fld (pv 0) rfl) rfl))
      (pss_cons (ps_set (i := 3) scLbL.nd rfl (.inl rfl) (pe_meth (pv 0) cL.cl mG FG hr1 bG .nil pass0 (pa_cons (pe_fld (pv 1) rfl) pa_nil)))
      (pss_cons (ps_set (i := 4) scLbL.nd rfl (.inl rfl) (pe_meth (pv 0) cL.cl mG FG hr1 bG .nil pass0 (pa_cons (pe_ifExp (pt_cmpR op_isN (pe_fld (pv 1) rfl) pe_non (nomark _)) (pe_fld (pv 1) rfl) pe_never) pa_nil)))
      (pss_cons (ps_set (i := 5) scLbL.nd rfl (.inl rfl) (pe_dsetd (pe_fld (pv 0) rfl) (pe_fld (pv 1) rfl) (pe_callB call_lenD (by rfl) B.len PySem.boot_len (pa_cons (pe_fld (pv 0) rfl) pa_nil)) ⟨rfl, rfl, rfl, rfl⟩))
      (pss_one (ps_ret (pe_tup (pa_cons (pe_meth (pv 1) cM.cl mK FK hr1 bK .nil pass0 (pa_cons (pv 2) pa_nil)) (pa_cons (pv 3) (pa_cons (pv 4) (pa_cons (pv 5) (pa_cons (pe_fld (pv 1) rfl) pa_nil))))))))))), ?_⟩
    have nM : ∀ f ∈ mtN, NoAttr K CM f := cM.no
    have nL : ∀ f ∈ lbN, NoAttr K CL f := cL.no
    refine ⟨_, rfl, L, CL, dL, _, .ref T, rfl, hL, cL.cl, nL _ (by decide +kernel), rfl, T, CT, dT, fs, ms, rfl, hT, cT.cl, cT.no _ (by decide +kernel), hl, ?_⟩
    refine ⟨_, rfl, L, dL, _, rfl, hL, rfl, _, rfl, m, CM, dm, _, .non, rfl, hm, cM.cl, nM _ (by decide +kernel), rfl, _, rfl, ?_⟩
    refine ⟨_, rfl, L, dL, _, rfl, hL, rfl, _, rfl, m, CM, dm, _, .non, rfl, hm, cM.cl, nM _ (by decide +kernel), rfl, rfl, _, rfl, iteT ⟨_, rfl, m, CM, dm, _, .non, rfl, hm, cM.cl, nM _ (by decide +kernel), rfl, _, rfl, ?_⟩⟩
    refine ⟨_, rfl, L, CL, dL, _, .ref st, rfl, hL, cL.cl, nL _ (by decide +kernel), rfl, st, rfl, .inl ⟨[], .inl hs⟩, _, rfl, m, CM, dm, _, .int 0, rfl, hm, cM.cl, nM _ (by decide +kernel), rfl, ?_⟩
    refine ⟨_, rfl, L, CL, dL, _, .ref st, rfl, hL, cL.cl, nL _ (by decide +kernel), rfl, st, [], rfl, hs, [], (Sum.inl 0 : Key), hs, rfl, by decide, (fun v h => by cases h), fun _ => ?_⟩
    have nms : m ≠ st := ne_of hm hs (by intro z; cases z)
    have hm' : ∀ o, upd H st o m = some (.ins CM dm (mtF (.int 0) sp tr rt .non .non .non .non (.bl false) (.bl false) (.int 0))) := fun o => by
      rw [upd_ne nms]
      exact hm
    refine ⟨_, rfl, m, dm, _, rfl, hm' _, rfl, _, rfl, m, dm, _, _, _, _, _, _, _, _, _, rfl, hm' _, _, rfl, _, rfl, _, rfl, _, rfl, m, CM, dm, _, .bl false, rfl, hm' _, cM.cl, nM _ (by decide +kernel), rfl, by show 5 ≤ sizeLine; decide, fun p hp => q _ p (But.upd.trans (But.new hp)) upd_same⟩
def spLbF (CL CT CM : Addr) : Sp := fun vs H Q _ => ∃ L dL g st a z mo A, vs = [.ref L, .ref A.m] ∧ LAt H CL L dL A.T g st ∧ TAt H CT CM a z mo A ∧ A.e ≠ st ∧
  ∀ H' p lb on, But st H H' → H' p = some (.tup [.str z, .ref A.rt, .ref lb, .ref on]) → H' lb = some (.tup lbT) → H' on = some (.tup []) → Q (.ref p) H'
end
end Tx
set_option Elab.async false
set_option linter.all false
set_option maxRecDepth 100000
set_option maxHeartbeats 8000000
namespace Tx
open PySem PySem.Spec PyProof.Rows L2 Cm Ob
section
variable {P : Program} {w : World} {K : PySem.W.Frag} {mg : Str → Option Value} {base : Heap} {CM CT CL CW : Addr}
theorem ok_lbF {f : Addr} {fd : FuncData} {k : Nat} (F : Fun K "form" "Labels.form" sLbF f fd) (B : Bi mg) (cL : Cn K CL lbN) (cT : Cn K CT tbN) (cM : Cn K CM mtN) (La : Mt P w K mg base 2 CL "label" ["self", "mount"] (spLbL CL CT CM)) (Ch : Mt P w K mg base 1 CT "children" ["self", "number"] (spChild CT)) : FnOk P w K mg base CX0 (k + 3) f fd ["self", "mount"] (spLbF CL CT CM) := by
  obtain ⟨fG, fdG, mG, FG, bG⟩ := La
  obtain ⟨fK, fdK, mK, FK, bK⟩ := Ch
  refine F.ok scLbF (fun vs H Q E h => ?_) (fun cdv A outer s H vs Q E hr h => ?_)
  · obtain ⟨L, dL, g, st, a, z, mo, A, rfl, _⟩ := h
    rfl
  · obtain ⟨L, dL, g, st, a, z, mo, A', rfl, hLA, t, es, q⟩ := h
    have hr1 : Room 1 (cxOf CX0 P w K mg base nLf "Labels.form" (defScope sLbF) f cdv A outer s H E).nox.A := hr.mono (by omega)
    have hr2 : Room 2 (cxOf CX0 P w K mg base nLf "Labels.form" (defScope sLbF) f cdv A outer s H E).nox.A := hr.mono (by omega)
    refine ⟨_, pss_cons (ps_set (i := 2) scLbF.nd rfl (.inl rfl) (pe_meth (pv 0) cL.cl mG FG hr2 bG .nil pass0 (pa_cons (pv 1) pa_nil)))
      (pss_cons (ps_setLc (i := 3) (own := [("one", 4)]) (g := gName 4) (tt := tYes) (by rfl) scLbF.nd rfl rfl (sw_true rfl rfl rfl (by decide +kernel)) (pi_list (pe_meth (pe_fld (pv 0) rfl) cT.cl mK FK hr1 bK .nil pass0 (pa_cons (pe_fld (pv 1) rfl) pa_nil))) (blkOk_by (own := [("one", 4)]) (N := nLf) (sc := defScope sLbF) (by decide +kernel)) (fun _ _ _ _ _ => pg_name (i := 4) scLbF.nd rfl (Or.inl rfl)) (fun _ _ _ _ _ => pts_nil) (fun _ _ _ _ _ => pe_never))
      (pss_one (ps_ret (pe_tup (pa_cons (pe_fld (pv 1) rfl) (pa_cons (pe_fld (pv 1) rfl) (pa_cons (pv 2) (pa_cons (pe_callTy call_tuple_of (by rfl) B.tuple (by decide +kernel) (pa_cons (pv 3) pa_nil)) pa_nil)))))))), ?_⟩
    have nM : ∀ f ∈ mtN, NoAttr K CM f := cM.no
    have nL : ∀ f ∈ lbN, NoAttr K CL f := cL.no
    refine ⟨_, rfl, L, dL, _, rfl, hLA.hL, rfl, _, rfl, L, dL, A'.T, A'.dT, _, .ref A'.ms, g, st, A'.m, A'.dm, _, _, _, rfl, hLA, t.hT, rfl, t.hm, fun H1 lb b1 hlb => ?_⟩
    have ns : ∀ {e o}, H e = some o → o ≠ .dK [] → H1 e = some o := fun {e o} h n => b1 e o (ne_of h hLA.hs n) h
    have hL1 := ns hLA.hL (by intro z; cases z)
    have hT1 := ns t.hT (by intro z; cases z)
    have hm1 := ns t.hm (by intro z; cases z)
    have hp1 := ns t.pl (by intro z; cases z)
    -- the empty dict of places may not be the stems
    have he1 := b1 A'.e _ es t.e
    refine ⟨_, rfl, L, CL, dL, _, .ref A'.T, rfl, hL1, cL.cl, nL _ (by decide +kernel), rfl, A'.T, A'.dT, _, rfl, hT1, rfl, _, rfl, A'.m, CM, A'.dm, _, .int 0, rfl, hm1, cM.cl, nM _ (by decide +kernel), rfl, ?_⟩
    refine ⟨A'.T, A'.dT, _, A'.pl, _, A'.e, 0, rfl, hT1, rfl, hp1, rfl, he1, fun l H2 s2 hl _ => ?_⟩
    refine ⟨l, rfl, ⟨_, SqL.of hl⟩, fun D hD => lc_list (K := K) (a := l) (xs := []) (fun i H' => H' D = some (.lst []) ∧ Same H2 H') ⟨upd_same, same_new hD⟩ (fun i H' _ h => SqL.of (h.2 _ _ hl)) ?_ ?_⟩
    · rintro i x H3 hx
      cases hx
    · rintro H3 ⟨h3, s3⟩
      have s13 := s2.trans s3
      refine ⟨_, rfl, A'.m, CM, A'.dm, _, .str z, rfl, s13 _ _ hm1, cM.cl, nM _ (by decide +kernel), rfl, _, rfl, A'.m, CM, A'.dm, _, .ref A'.rt, rfl, s13 _ _ hm1, cM.cl, nM _ (by decide +kernel), rfl, _, rfl, _, rfl, D, [], rfl, .inl ⟨SqL.of h3, fun on hon => ?_⟩⟩
      refine ⟨by show 4 ≤ sizeLine; decide, fun p hp => q _ p lb on ?_ upd_same ?_ ?_⟩
      · exact fun e o n h => same_new hp _ _ (same_new hon _ _ (s13 _ _ (b1 e o n h)))
      · exact same_new hp _ _ (same_new hon _ _ (s13 _ _ hlb))
      · exact same_new hp _ _ upd_same
/-! ### World.spaces, World.shape -/
abbrev sSpaces : Stmt := inClass sWorldC 8
abbrev sShape : Stmt := inClass sWorldC 17
theorem scSpaces : FnScope ["self"] ["self"] (defScope sSpaces) := ⟨rfl, rfl, rfl, by decide +kernel, rfl, by decide +kernel, by decide +kernel⟩
abbrev nSh : List Str := ["self", "labels", "found", "space", "form"]
theorem scShape : FnScope nSh ["self"] (defScope sShape) := ⟨rfl, rfl, rfl, by decide +kernel, rfl, by decide +kernel, by decide +kernel⟩
def spSpaces (CW CT CM : Addr) : Sp := fun vs H Q _ => ∃ x dx l1 l2 a z mo A, vs = [.ref x] ∧ WAt H CW CT CM a z mo x dx l1 l2 A ∧ ∀ p, H p = none → Q (.ref p) (upd H p (.lst [.int 0]))
theorem ok_spaces {f : Addr} {fd : FuncData} {k : Nat} (F : Fun K "spaces" "World.spaces" sSpaces f fd) (B : Bi mg) (cW : Cn K CW woN) (cT : Cn K CT tbN) : FnOk P w K mg base CX0 (k + 1) f fd ["self"] (spSpaces CW CT CM) := by
  refine F.ok scSpaces (fun vs H Q E h => ?_) (fun cdv A outer s H vs Q E hr h => ?_)
  · obtain ⟨x, dx, l1, l2, a, z, mo, A, rfl, _⟩ := h
    rfl
  · obtain ⟨x, dx, l1, l2, a, z, mo, A', rfl, W, q⟩ := h
    refine ⟨_, pss_one (ps_ret (pe_callB (call_sortedDI rfl) (by rfl) B.sorted boot_sorted (pa_cons (pe_fld (pe_fld (pv 0) rfl) rfl) pa_nil))), ?_⟩
    refine ⟨_, rfl, x, CW, dx, _, .ref A'.T, rfl, W.hx, cW.cl, cW.no _ (by decide +kernel), rfl, A'.T, CT, A'.dT, _, .ref A'.tp, rfl, W.t.hT, cT.cl, cT.no _ (by decide +kernel), rfl, A'.tp, _, [0], rfl, .inl W.t.tp, rfl, by decide, fun ys p hy _ hp => ?_⟩
    have ey : ys = [0] := List.perm_singleton.mp hy
    subst ey
    exact q p hp
/-- a shape -/
def ShAt (H : Hp) (v : V) (z : Str) : Prop := ∃ p1 p2 rt lb on, v = .ref p1 ∧ H p1 = some (.tup [.ref p2]) ∧ H p2 = some (.tup [.int 0, .str z, .ref rt, .ref lb, .ref on]) ∧ H rt = some (.tup []) ∧ H lb = some (.tup lbT) ∧ H on = some (.tup [])
theorem ShAt.same {H H' : Hp} {v : V} {z : Str} (h : ShAt H v z) (s : Same H H') : ShAt H' v z := by
  obtain ⟨p1, p2, rt, lb, on, e, h1, h2, h3, h4, h5⟩ := h
  exact ⟨p1, p2, rt, lb, on, e, s _ _ h1, s _ _ h2, s _ _ h3, s _ _ h4, s _ _ h5⟩
def spShape (CW CT CM : Addr) : Sp := fun vs H Q _ => ∃ x dx l1 l2 a z mo A, vs = [.ref x] ∧ WAt H CW CT CM a z mo x dx l1 l2 A ∧ ∀ v H', Same H H' → ShAt H' v z → Q v H'
theorem ok_shape {f : Addr} {fd : FuncData} {k : Nat} (F : Fun K "shape" "World.shape" sShape f fd) (B : Bi mg) (cW : Cn K CW woN) (cT : Cn K CT tbN) (cL : Cn K CL lbN) (gL : mg "Labels" = some (.ref CL)) (MkL : ∃ f fd, Mk K CL f ∧ FnOk P w K mg base CX0 1 f fd ["self", "table"] (spLbI CL) ∧ Binds K fd ["self", "table"] [])
    (Sp : Mt P w K mg base 1 CW "spaces" ["self"] (spSpaces CW CT CM)) (Fo : Mt P w K mg base 3 CL "form" ["self", "mount"] (spLbF CL CT CM)) : FnOk P w K mg base CX0 (k + 4) f fd ["self"] (spShape CW CT CM) := by
  obtain ⟨fI, fdI, MK, FI, bI⟩ := MkL
  obtain ⟨fS, fdS, mS, FS, bS⟩ := Sp
  obtain ⟨fG, fdG, mG, FG, bG⟩ := Fo
  refine F.ok scShape (fun vs H Q E h => ?_) (fun cdv A outer s H vs Q E hr h => ?_)
  · obtain ⟨x, dx, l1, l2, a, z, mo, A, rfl, _⟩ := h
    rfl
  · obtain ⟨x, dx, l1, l2, a, z, mo, A', rfl, W, q⟩ := h
    have hr1 : Room 1 (cxOf CX0 P w K mg base nSh "World.shape" (defScope sShape) f cdv A outer s H E).nox.A := hr.mono (by omega)
    have hr2 : Room 2 (cxOf CX0 P w K mg base nSh "World.shape" (defScope sShape) f cdv A outer s H E).nox.A := hr.mono (by omega)
    have hr3 : Room 3 (cxOf CX0 P w K mg base nSh "World.shape" (defScope sShape) f cdv A outer s H E).nox.A := hr.mono (by omega)
    have hu := units1 hr1
    refine ⟨_, pss_cons (ps_set (i := 1) scShape.nd rfl (.inl rfl) (pe_make MK FI hr2 (by rfl) gL bI .nil pass0 (pa_cons (pe_fld (pv 0) rfl) pa_nil)))
      (pss_cons (ps_set (i := 2) scShape.nd rfl (.inl rfl) (pe_lst pa_nil))
      (pss_cons (ps_for PassesOwn.never rfl (pi_list (pe_meth0 (pv 0) cW.cl mS FS hr1 bS .nil pass0)) (pg_name (i := 3) scShape.nd rfl (Or.inl rfl))
        (pss_cons (ps_set (i := 4) scShape.nd rfl (.inl rfl) (pe_meth (pv 1) cL.cl mG FG hr3 bG .nil pass0 (pa_cons (pe_dget hu (pe_fld (pe_fld (pv 0) rfl) rfl) (pe_dget hu (pe_fld (pe_fld (pv 0) rfl) rfl) (pv 3) (fun _ _ => rfl)) (fun _ _ => rfl)) pa_nil)))
        (pss_one (ps_expr (pe_bm PySem.F.plainAttrs_list PySem.F.slot_list_append PySem.F.type_list_append mt_append (pv 2) (pa_cons (pe_op op_catT (pe_tup (pa_cons (pe_dget hu (pe_fld (pe_fld (pv 0) rfl) rfl) (pv 3) (fun _ _ => rfl)) pa_nil)) (pv 4)) pa_nil))))))
      (pss_one (ps_ret (pe_callTy call_tuple_of (by rfl) B.tuple (by decide +kernel) (pa_cons (pv 2) pa_nil)))))), ?_⟩
    have nW : ∀ f ∈ woN, NoAttr K CW f := cW.no
    have nT : ∀ f ∈ tbN, NoAttr K CT f := cT.no
    refine ⟨_, rfl, x, CW, dx, _, .ref A'.T, rfl, W.hx, cW.cl, nW _ (by decide +kernel), rfl, fun L dL hL hdL neL => ?_⟩
    refine ⟨L, dL, .ref A'.T, rfl, upd_same, fun H1 g st b1 hL1 hg1 hs1 ng ns hg0 hs0 ngs => ⟨rfl, ?_⟩⟩
    have up1 : ∀ e o, H e = some o → H1 e = some o := fun e o h => by
      refine b1 e o (ne_of_none h hL) ?_
      rw [upd_ne (ne_of_none h hL), upd_ne (ne_of_none h hdL)]
      exact h
    have old : ∀ {e : Addr}, e ≠ L → upd (upd H dL (.own L)) L (.ins CL dL []) e = none → H e = none := fun {e} ne h => by
      rw [upd_ne ne] at h
      by_cases z1 : e = dL
      · rw [z1, upd_same] at h
        cases h
      · rw [upd_ne z1] at h
        exact h
    have hsH := old ns hs0
    have W1 : WAt H1 CW CT CM a z mo x dx l1 l2 A' := W.same up1
    have nes : A'.e ≠ st := ne_of_none W.t.e hsH
    refine ⟨by show 0 ≤ sizeLine; decide, fun l hl => ?_⟩
    have sl := same_new (o := HO.lst []) hl
    have hl2 : upd H1 l (.lst []) l = some (.lst []) := upd_same
    have W2 := W1.same sl
    have hL2 := sl _ _ hL1
    have hs2 := sl _ _ hs1
    have hlH : H l = none := by
      cases e : H l with
      | none => rfl
      | some o =>
        rw [up1 _ _ e] at hl
        cases hl
    have s02 : Same H (upd H1 l (.lst [])) := fun e o h => sl _ _ (up1 e o h)
    generalize hH2 : upd H1 l (.lst []) = H2 at sl hl2 W2 hL2 hs2 s02 ⊢
    refine ⟨_, rfl, x, dx, _, rfl, W2.hx, rfl, x, dx, l1, l2, a, z, mo, A', rfl, W2, fun p hp => ?_⟩
    have sp := same_new (o := HO.lst [.int 0]) hp
    have hp3 : upd H2 p (.lst [.int 0]) p = some (.lst [.int 0]) := upd_same
    have npl : p ≠ l := Ne.symm (ne_of_none hl2 hp)
    have nps : p ≠ st := Ne.symm (ne_of_none hs2 hp)
    generalize hH3 : upd H2 p (.lst [.int 0]) = H3 at sp hp3 ⊢
    have W3 := W2.same sp
    refine ⟨p, rfl, ⟨_, SqL.of hp3⟩, for_list (K := K) (a := p) (xs := [.int 0]) (fun i σ H' => (∃ u v, σ = [some (.ref x), some (.ref L), some (.ref l), u, v]) ∧ H' p = some (.lst [.int 0]) ∧ Same H H' ∧ (i = 0 → Same H3 H') ∧ (i = 1 → ∃ p2 rt lb on, H' l = some (.lst [.ref p2]) ∧ H' p2 = some (.tup [.int 0, .str z, .ref rt, .ref lb, .ref on]) ∧ H' rt = some (.tup []) ∧ H' lb = some (.tup lbT) ∧ H' on = some (.tup []))) ⟨⟨_, _, rfl⟩, hp3, s02.trans sp, fun _ => Same.refl _, (fun h => by cases h)⟩ (fun i σ H' _ h => SqL.of h.2.1) ?_ ?_⟩
    · rintro i y σ H4 hy ⟨⟨u, v, rfl⟩, hp4, sH, s0, _⟩
      have hi0 : i = 0 := by
        have := (List.getElem?_eq_some_iff.mp hy).1
        simp only [List.length_cons, List.length_nil] at this
        omega
      subst hi0
      cases hy
      have s4 := s0 rfl
      have W4 := W3.same s4
      have hL4 := s4 _ _ (sp _ _ hL2)
      have hs4 := s4 _ _ (sp _ _ hs2)
      have hl4 := s4 _ _ (sp _ _ hl2)
      refine ⟨_, rfl, L, dL, _, rfl, hL4, rfl, _, rfl, x, CW, dx, _, .ref A'.T, rfl, W4.hx, cW.cl, nW _ (by decide +kernel), rfl, A'.T, CT, A'.dT, _, .ref A'.kn, rfl, W4.t.hT, cT.cl, nT _ (by decide +kernel), rfl, _, rfl, x, CW, dx, _, .ref A'.T, rfl, W4.hx, cW.cl, nW _ (by decide +kernel), rfl, A'.T, CT, A'.dT, _, .ref A'.tp, rfl, W4.t.hT, cT.cl, nT _ (by decide +kernel), rfl, _, rfl, A'.tp, .int 0, rfl, DGet.k (k := (Sum.inl 0 : Key)) W4.t.tp, A'.kn, .ref A'.m, rfl, DGet.k (k := (Sum.inl 0 : Key)) W4.t.kn, ?_⟩
      refine ⟨L, dL, g, st, a, z, mo, A', rfl, ⟨hL4, hs4⟩, W4.t, nes, fun H5 pf lb on b5 hpf hlb hon => ?_⟩
      have up5 : ∀ {e o}, H4 e = some o → o ≠ .dK [] → H5 e = some o := fun {e o} h n => b5 e o (ne_of h hs4 n) h
      have hl5 := up5 hl4 (by intro z; cases z)
      have sH5 : Same H H5 := fun e o h => b5 e o (ne_of_none h hsH) (sH e o h)
      have W5 : WAt H5 CW CT CM a z mo x dx l1 l2 A' := W.same sH5
      have hp5 := b5 p _ nps hp4
      refine ⟨_, rfl, .inl ⟨rfl, _, SqL.of hl5⟩, _, rfl, x, CW, dx, _, .ref A'.T, rfl, W5.hx, cW.cl, nW _ (by decide +kernel), rfl, A'.T, CT, A'.dT, _, .ref A'.ow, rfl, W5.t.hT, cT.cl, nT _ (by decide +kernel), rfl, _, rfl, A'.ow, .int 0, rfl, DGet.k (k := (Sum.inl 0 : Key)) W5.t.ow, by show 1 ≤ sizeLine; decide, fun p1 hp1 => ?_⟩
      have s6 := same_new (o := HO.tup [.int 0]) hp1
      refine ⟨_, rfl, p1, pf, _, _, rfl, rfl, SqT.of upd_same, SqT.of (s6 _ _ hpf), by simp, by show 1 + 4 ≤ sizeLine; decide, (fun h => by cases h), fun _ p2 hp2 => ?_⟩
      have s7 := same_new (o := HO.tup ([.int 0] ++ [.str z, .ref A'.rt, .ref lb, .ref on])) hp2
      have s67 := s6.trans s7
      have hl7 := s67 _ _ hl5
      refine ⟨l, _, _, rfl, rfl, hl7, by decide, ?_⟩
      refine ⟨⟨_, _, rfl⟩, ?_, same_mut hlH (sH5.trans s67), (fun h => by cases h), fun _ => ⟨p2, A'.rt, lb, on, upd_same, ?_, ?_, ?_, ?_⟩⟩
      · rw [upd_ne npl]
        exact s67 _ _ hp5
      · rw [upd_ne (ne_of upd_same hl7 (by intro z; cases z))]
        exact upd_same
      · have h := s67 _ _ W5.t.rt
        rw [upd_ne (ne_of h hl7 (by intro z; cases z))]
        exact h
      · have h := s67 _ _ hlb
        rw [upd_ne (ne_of h hl7 (by intro z; cases z))]
        exact h
      · have h := s67 _ _ hon
        rw [upd_ne (ne_of h hl7 (by intro z; cases z))]
        exact h
    · rintro σ H4 ⟨⟨u, v, rfl⟩, hp4, sH, _, s1⟩
      obtain ⟨p2, rt, lb, on, h1, h2, h3, h4, h5⟩ := s1 rfl
      refine ⟨_, rfl, l, _, rfl, .inl ⟨SqL.of h1, fun p1 hp1 => ?_⟩⟩
      have s5 := same_new (o := HO.tup [.ref p2]) hp1
      exact q _ _ (sH.trans s5) ⟨p1, p2, rt, lb, on, rfl, upd_same, s5 _ _ h2, s5 _ _ h3, s5 _ _ h4, s5 _ _ h5⟩
end
end Tx
set_option Elab.async false
set_option linter.all false
set_option maxRecDepth 100000
set_option maxHeartbeats 8000000
namespace Tx
open PySem PySem.Spec PyProof.Rows L2 Cm Ob
/-- no number of what there is -/
inductive OdAt (K : PySem.W.Frag) (H : Hp) : V → Prop
  | int (i : Int) (h : i ≠ 0) : OdAt K H (.int i)
  | bl (b : Bool) : OdAt K H (.bl b)
  | oth {x : V} {n : String} (ty : TyX K H x (.type n)) (h : kitB n "int" = some false) : OdAt K H x
structure MX (P : Program) (w : World) (K : PySem.W.Frag) (mg : Str → Option Value) (base : Heap) (k : Nat) (C : Addr) (m : Str) (ps : List Str) (sp : Sp) : Prop where
  ex : ∃ f fd, Meth K C m f ∧ FnOk P w K mg base (L2.CX P w) k f fd ps sp ∧ Binds K fd ps []
abbrev sSureS : Stmt := inClass sTableC 4
abbrev sMount : Stmt := inClass sTableC 3
abbrev sTRec : Stmt := inClass sTableC 21
theorem scSureS : FnScope ["self", "space"] ["self", "space"] (defScope sSureS) := ⟨rfl, rfl, rfl, by decide +kernel, rfl, by decide +kernel, by decide +kernel⟩
theorem scMount : FnScope ["self", "number"] ["self", "number"] (defScope sMount) := ⟨rfl, rfl, rfl, by decide +kernel, rfl, by decide +kernel, by decide +kernel⟩
theorem scTRec : FnScope ["self", "mount", "found", "group"] ["self", "mount"] (defScope sTRec) := ⟨rfl, rfl, rfl, by decide +kernel, rfl, by decide +kernel, by decide +kernel⟩
def spSureS (K : PySem.W.Frag) (CT CM CS : Addr) : Sp := fun vs H Q E => ∃ a z mo B x, vs = [.ref B.T, x] ∧ TAt H CT CM a z mo B ∧ ((x = .int 0 ∧ Q .non H) ∨ (OdAt K H x ∧ E (.ref CS) none H))
def spMount (K : PySem.W.Frag) (CT CM CS : Addr) : Sp := fun vs H Q E => ∃ a z mo B x, vs = [.ref B.T, x] ∧ TAt H CT CM a z mo B ∧ ((x = .int 0 ∧ Q (.ref B.m) H) ∨ (OdAt K H x ∧ E (.ref CS) none H))
def spTRec (CT CM : Addr) : Sp := fun vs H Q _ => ∃ a z mo B, vs = [.ref B.T, .ref B.m] ∧ TAt H CT CM a z mo B ∧ ∀ p, H p = none → Q (.ref p) (upd H p (.lst [.int 0]))
section
variable {P : Program} {w : World} {K : PySem.W.Frag} {mg : Str → Option Value} {base : Heap} {CM CT CW CS CQ : Addr}
theorem ok_sureS {f : Addr} {fd : FuncData} {k : Nat} (F : Fun K "sure_space" "Table.sure_space" sSureS f fd) (B' : Bi mg) (cT : Cn K CT tbN) (e : Ec K mg "NoSpace" CS) : FnOk P w K mg base (L2.CX P w) (k + 1) f fd ["self", "space"] (spSureS K CT CM CS) := by
  refine F.okX scSureS (fun vs H Q E h => ?_) (fun cdv A outer s H vs Q E hr h => ?_)
  · obtain ⟨a, z, mo, B, x, rfl, _⟩ := h
    rfl
  · obtain ⟨a, z, mo, B, x, rfl, t, q⟩ := h
    refine ⟨_, pss_one (ps_if (PW.pt (pw_or (pt_not (pt_val (pe_callB call_isi (by rfl) B'.isin (by decide +kernel) (pa_cons (pv 1) (pa_cons (pe_bltn (v := .ty "int") (by rfl) B'.int (by decide +kernel) rfl) pa_nil))))) (pw_or (pt_val (pe_callB call_isi (by rfl) B'.isin (by decide +kernel) (pa_cons (pv 1) (pa_cons (pe_bltn (v := .ty "bool") (by rfl) B'.bool (by decide +kernel) rfl) pa_nil)))) (pw_or1 (pt_cmp (pc_dnotin (units1 hr) (pv 1) (pe_fld (pv 0) rfl)))))))
      (pss_one (ps_raise rfl (takes_of rfl rfl rfl rfl) (pmk_own PySem.F.excBase_ValueError e.x e.g e.k (raises_own e.b e.t) (by rfl)))) pss_nil), ?_⟩
    rcases q with ⟨rfl, q⟩ | ⟨o, q⟩
    · refine ⟨_, rfl, _, .ty "int", _, _, true, rfl, .ty _, .base (.int 0), kit_ty (by decide +kernel), _, rfl, iteF ?_⟩
      refine ⟨_, rfl, _, .ty "bool", _, _, false, rfl, .ty _, .base (.int 0), kit_ty (by decide +kernel), _, rfl, iteF ?_⟩
      exact ⟨_, rfl, _, rfl, B.T, CT, B.dT, _, .ref B.tp, rfl, t.hT, cT.cl, cT.no _ (by decide +kernel), rfl, B.tp, _, rfl, DGet.k (k := (Sum.inl 0 : Key)) t.tp, _, rfl, iteF q⟩
    · cases o with
      | int i hi =>
        refine ⟨_, rfl, _, .ty "int", _, _, true, rfl, .ty _, .base (.int i), kit_ty (by decide +kernel), _, rfl, iteF ?_⟩
        refine ⟨_, rfl, _, .ty "bool", _, _, false, rfl, .ty _, .base (.int i), kit_ty (by decide +kernel), _, rfl, iteF ?_⟩
        refine ⟨_, rfl, _, rfl, B.T, CT, B.dT, _, .ref B.tp, rfl, t.hT, cT.cl, cT.no _ (by decide +kernel), rfl, B.tp, _, rfl, DGet.k (k := (Sum.inl i : Key)) t.tp, _, rfl, ?_⟩
        have hv : valV [((Sum.inl 0 : Key), V.int 0)] (Sum.inl i) = none := by
          have : ¬ (0 : Int) = i := fun h => hi h.symm
          simp [valV, this]
        rw [hv]
        exact iteT q
      | bl b =>
        refine ⟨_, rfl, _, .ty "int", _, _, true, rfl, .ty _, .base (.bl b), kit_ty (by decide +kernel), _, rfl, iteF ?_⟩
        exact ⟨_, rfl, _, .ty "bool", _, _, true, rfl, .ty _, .base (.bl b), kit_ty (by decide +kernel), _, rfl, iteT (iteT q)⟩
      | oth ty hk => exact ⟨_, rfl, _, .ty "int", _, _, false, rfl, .ty _, ty, kit_ty hk, _, rfl, iteT (iteT q)⟩
theorem ok_mount {f : Addr} {fd : FuncData} {k : Nat} (F : Fun K "mount" "Table.mount" sMount f fd) (B' : Bi mg) (cT : Cn K CT tbN) (e : Ec K mg "NoMount" CS) : FnOk P w K mg base (L2.CX P w) (k + 1) f fd ["self", "number"] (spMount K CT CM CS) := by
  refine F.okX scMount (fun vs H Q E h => ?_) (fun cdv A outer s H vs Q E hr h => ?_)
  · obtain ⟨a, z, mo, B, x, rfl, _⟩ := h
    rfl
  · obtain ⟨a, z, mo, B, x, rfl, t, q⟩ := h
    refine ⟨_, pss_cons (ps_if (PW.pt (pw_or (pt_not (pt_val (pe_callB call_isi (by rfl) B'.isin (by decide +kernel) (pa_cons (pv 1) (pa_cons (pe_bltn (v := .ty "int") (by rfl) B'.int (by decide +kernel) rfl) pa_nil))))) (pw_or (pt_val (pe_callB call_isi (by rfl) B'.isin (by decide +kernel) (pa_cons (pv 1) (pa_cons (pe_bltn (v := .ty "bool") (by rfl) B'.bool (by decide +kernel) rfl) pa_nil)))) (pw_or1 (pt_cmp (pc_dnotin (units1 hr) (pv 1) (pe_fld (pv 0) rfl)))))))
      (pss_one (ps_raise rfl (takes_of rfl rfl rfl rfl) (pmk_own PySem.F.excBase_ValueError e.x e.g e.k (raises_own e.b e.t) (by rfl)))) pss_nil) (pss_one (ps_ret (pe_dget (units1 hr) (pe_fld (pv 0) rfl) (pv 1) (fun _ _ => rfl)))), ?_⟩
    rcases q with ⟨rfl, q⟩ | ⟨o, q⟩
    · refine ⟨_, rfl, _, .ty "int", _, _, true, rfl, .ty _, .base (.int 0), kit_ty (by decide +kernel), _, rfl, iteF ?_⟩
      refine ⟨_, rfl, _, .ty "bool", _, _, false, rfl, .ty _, .base (.int 0), kit_ty (by decide +kernel), _, rfl, iteF ?_⟩
      exact ⟨_, rfl, _, rfl, B.T, CT, B.dT, _, .ref B.kn, rfl, t.hT, cT.cl, cT.no _ (by decide +kernel), rfl, B.kn, _, rfl, DGet.k (k := (Sum.inl 0 : Key)) t.kn, _, rfl, iteF ⟨_, rfl, B.T, CT, B.dT, _, .ref B.kn, rfl, t.hT, cT.cl, cT.no _ (by decide +kernel), rfl, _, rfl, B.kn, .ref B.m, rfl, DGet.k (k := (Sum.inl 0 : Key)) t.kn, q⟩⟩
    · cases o with
      | int i hi =>
        refine ⟨_, rfl, _, .ty "int", _, _, true, rfl, .ty _, .base (.int i), kit_ty (by decide +kernel), _, rfl, iteF ?_⟩
        refine ⟨_, rfl, _, .ty "bool", _, _, false, rfl, .ty _, .base (.int i), kit_ty (by decide +kernel), _, rfl, iteF ?_⟩
        refine ⟨_, rfl, _, rfl, B.T, CT, B.dT, _, .ref B.kn, rfl, t.hT, cT.cl, cT.no _ (by decide +kernel), rfl, B.kn, _, rfl, DGet.k (k := (Sum.inl i : Key)) t.kn, _, rfl, ?_⟩
        have hv : valV [((Sum.inl 0 : Key), V.ref B.m)] (Sum.inl i) = none := by
          have : ¬ (0 : Int) = i := fun h => hi h.symm
          simp [valV, this]
        rw [hv]
        exact iteT q
      | bl b =>
        refine ⟨_, rfl, _, .ty "int", _, _, true, rfl, .ty _, .base (.bl b), kit_ty (by decide +kernel), _, rfl, iteF ?_⟩
        exact ⟨_, rfl, _, .ty "bool", _, _, true, rfl, .ty _, .base (.bl b), kit_ty (by decide +kernel), _, rfl, iteT (iteT q)⟩
      | oth ty hk => exact ⟨_, rfl, _, .ty "int", _, _, false, rfl, .ty _, ty, kit_ty hk, _, rfl, iteT (iteT q)⟩
theorem ok_tRec {f : Addr} {fd : FuncData} {k : Nat} (F : Fun K "receivers" "Table.receivers" sTRec f fd) (cM : Cn K CM mtN) : FnOk P w K mg base CX0 (k + 1) f fd ["self", "mount"] (spTRec CT CM) := by
  refine F.ok scTRec (fun vs H Q E h => ?_) (fun cdv A outer s H vs Q E hr h => ?_)
  · obtain ⟨a, z, mo, B, rfl, _⟩ := h
    rfl
  · obtain ⟨a, z, mo, B, rfl, t, q⟩ := h
    refine ⟨_, pss_cons (ps_if (pt_cmpR op_isN (pe_fld (pv 1) rfl) pe_non (nomark _)) (pss_one (ps_ret (pe_lst (pa_cons (pe_fld (pv 1) rfl) pa_nil)))) pss_nil) pss_no, ?_⟩
    refine ⟨_, rfl, B.m, CM, B.dm, _, .non, rfl, t.hm, cM.cl, cM.no _ (by decide +kernel), rfl, rfl, _, rfl, iteT ⟨_, rfl, B.m, CM, B.dm, _, .int 0, rfl, t.hm, cM.cl, cM.no _ (by decide +kernel), rfl, by show 1 ≤ sizeLine; decide, fun p hp => q p hp⟩⟩
end
end Tx
set_option Elab.async false
set_option linter.all false
set_option maxRecDepth 100000
set_option maxHeartbeats 8000000
namespace Tx
open PySem PySem.Spec PyProof.Rows L2 Cm Ob
/-- what a question of a begun world gives -/
abbrev RW : Type := Str → Hp → V → Prop
def rL0 : RW := fun _ H u => ∃ p, u = .ref p ∧ H p = some (.lst [.int 0])
def rLe : RW := fun _ H u => ∃ p, u = .ref p ∧ H p = some (.lst [])
def rO : RW := fun _ _ u => u = .int 0
def rT : RW := fun _ _ u => u = .bl true
def rNo : RW := fun _ _ _ => False
def rPl : RW := fun z H u => ∃ p rt on, u = .ref p ∧ H p = some (.tup [.str z, .ref rt, .ref on]) ∧ H rt = some (.tup []) ∧ H on = some (.tup [])
def rTo : RW := fun z H u => ∃ p rt, u = .ref p ∧ H p = some (.tup [.int 0, .str z, .ref rt, .non, .non, .str "alone", .bl false]) ∧ H rt = some (.tup [])
def spWM (K : PySem.W.Frag) (CW CT CM CS : Addr) (R : RW) : Sp := fun vs H Q E => ∃ x dx l1 l2 a z mo B v, vs = [.ref x, v] ∧ WAt H CW CT CM a z mo x dx l1 l2 B ∧ ((v = .int 0 ∧ ∀ u H', Same H H' → R z H' u → Q u H') ∨ (OdAt K H v ∧ ∀ H', Same H H' → E (.ref CS) none H'))
def spWO (K : PySem.W.Frag) (CW CT CM CS : Addr) : Sp := fun vs H Q E => ∃ x dx l1 l2 a z mo B v, vs = [.ref x, v] ∧ WAt H CW CT CM a z mo x dx l1 l2 B ∧ OdAt K H v ∧ ∀ H', Same H H' → E (.ref CS) none H'
def spWO2 (K : PySem.W.Frag) (CW CT CM CS : Addr) : Sp := fun vs H Q E => ∃ x dx l1 l2 a z mo B v u, vs = [.ref x, v, u] ∧ WAt H CW CT CM a z mo x dx l1 l2 B ∧ OdAt K H v ∧ ∀ H', Same H H' → E (.ref CS) none H'
abbrev sMounts : Stmt := inClass sWorldC 9
abbrev sTold : Stmt := inClass sWorldC 10
abbrev sPeers : Stmt := inClass sWorldC 11
abbrev sFollowed : Stmt := inClass sWorldC 12
abbrev sReceivers : Stmt := inClass sWorldC 13
abbrev sOwner : Stmt := inClass sWorldC 14
abbrev sTrusted : Stmt := inClass sWorldC 15
abbrev sPlain : Stmt := inClass sWorldC 16
abbrev sShown : Stmt := inClass sWorldC 7
abbrev sWalk : Stmt := inClass sWorldC 5
abbrev sPathOf : Stmt := inClass sWorldC 6
abbrev sPast : Stmt := inClass sWorldC 4
theorem scMounts : FnScope ["self", "space", "mount"] ["self", "space"] (defScope sMounts) := ⟨rfl, rfl, rfl, by decide +kernel, rfl, by decide +kernel, by decide +kernel⟩
theorem scTold : FnScope ["self", "number", "mount", "kind"] ["self", "number"] (defScope sTold) := ⟨rfl, rfl, rfl, by decide +kernel, rfl, by decide +kernel, by decide +kernel⟩
theorem scPeers : FnScope ["self", "number", "mount"] ["self", "number"] (defScope sPeers) := ⟨rfl, rfl, rfl, by decide +kernel, rfl, by decide +kernel, by decide +kernel⟩
theorem scFollowed : FnScope ["self", "number", "mount", "group"] ["self", "number"] (defScope sFollowed) := ⟨rfl, rfl, rfl, by decide +kernel, rfl, by decide +kernel, by decide +kernel⟩
theorem scReceivers : FnScope ["self", "number"] ["self", "number"] (defScope sReceivers) := ⟨rfl, rfl, rfl, by decide +kernel, rfl, by decide +kernel, by decide +kernel⟩
theorem scOwner : FnScope ["self", "space"] ["self", "space"] (defScope sOwner) := ⟨rfl, rfl, rfl, by decide +kernel, rfl, by decide +kernel, by decide +kernel⟩
theorem scTrusted : FnScope ["self", "space"] ["self", "space"] (defScope sTrusted) := ⟨rfl, rfl, rfl, by decide +kernel, rfl, by decide +kernel, by decide +kernel⟩
theorem scPlain : FnScope ["self", "space"] ["self", "space"] (defScope sPlain) := ⟨rfl, rfl, rfl, by decide +kernel, rfl, by decide +kernel, by decide +kernel⟩
theorem scShown : FnScope ["self", "space"] ["self", "space"] (defScope sShown) := ⟨rfl, rfl, rfl, by decide +kernel, rfl, by decide +kernel, by decide +kernel⟩
theorem scWalk : FnScope ["self", "space", "path"] ["self", "space", "path"] (defScope sWalk) := ⟨rfl, rfl, rfl, by decide +kernel, rfl, by decide +kernel, by decide +kernel⟩
theorem scPathOf : FnScope ["self", "number", "node"] ["self", "number", "node"] (defScope sPathOf) := ⟨rfl, rfl, rfl, by decide +kernel, rfl, by decide +kernel, by decide +kernel⟩
theorem scPast : FnScope ["self"] ["self"] (defScope sPast) := ⟨rfl, rfl, rfl, by decide +kernel, rfl, by decide +kernel, by decide +kernel⟩
theorem scPlainF : FnScope ["table", "mount", "on", "one"] ["table", "mount"] (defScope sPlainF) := ⟨rfl, rfl, rfl, by decide +kernel, rfl, by decide +kernel, by decide +kernel⟩
theorem scPathTo : FnScope ["table", "number", "node", "mount", "tree", "path", "root", "walker", "found"] ["table", "number", "node"] (defScope sPathTo) := ⟨rfl, rfl, rfl, by decide +kernel, rfl, by decide +kernel, by decide +kernel⟩
section
variable {P : Program} {w : World} {K : PySem.W.Frag} {mg : Str → Option Value} {base : Heap} {CM CT CW CS CQ : Addr}
def spPast (CW CT CM : Addr) : Sp := fun vs H Q _ => ∃ x dx l1 l2 a z mo B, vs = [.ref x] ∧ WAt H CW CT CM a z mo x dx l1 l2 B ∧ ∀ p H', Same H H' → H' p = some (.lst []) → Q (.ref p) H'
theorem ok_past {f : Addr} {fd : FuncData} {k : Nat} (F : Fun K "past" "World.past" sPast f fd) (hl : mg "list" = none) (cW : Cn K CW woN) : FnOk P w K mg base CX0 (k + 1) f fd ["self"] (spPast CW CT CM) := by
  refine F.ok scPast (fun vs H Q E h => ?_) (fun cdv A outer s H vs Q E hr h => ?_)
  · obtain ⟨x, dx, l1, l2, a, z, mo, B, rfl, _⟩ := h
    rfl
  · obtain ⟨x, dx, l1, l2, a, z, mo, B, rfl, W, q⟩ := h
    refine ⟨_, pss_one (ps_ret (pe_callTy call_list_of (by rfl) hl (by decide +kernel) (pa_cons (pe_fld (pv 0) rfl) pa_nil))), ?_⟩
    exact ⟨_, rfl, x, CW, dx, _, .ref l1, rfl, W.hx, cW.cl, cW.no _ (by decide +kernel), rfl, l1, _, rfl, .inl (SqL.of W.h1), fun p hp => q p _ (same_new hp) upd_same⟩
def spPlF (CT CM : Addr) : Sp := fun vs H Q _ => ∃ a z mo B, vs = [.ref B.T, .ref B.m] ∧ TAt H CT CM a z mo B ∧ ∀ u H', Same H H' → rPl z H' u → Q u H'
theorem ok_plF {f : Addr} {fd : FuncData} {k : Nat} (F : Fun K "plain_form" "plain_form" sPlainF f fd) (B : Bi mg) (cT : Cn K CT tbN) (cM : Cn K CM mtN) (Ch : Mt P w K mg base 1 CT "children" ["self", "number"] (spChild CT)) : FnOk P w K mg base CX0 (k + 2) f fd ["table", "mount"] (spPlF CT CM) := by
  obtain ⟨fK, fdK, mK, FK, bK⟩ := Ch
  refine F.ok scPlainF (fun vs H Q E h => ?_) (fun cdv A outer s H vs Q E hr h => ?_)
  · obtain ⟨a, z, mo, A, rfl, _⟩ := h
    rfl
  · obtain ⟨a, z, mo, A', rfl, t, q⟩ := h
    have hr1 : Room 1 (cxOf CX0 P w K mg base ["table", "mount", "on", "one"] "plain_form" (defScope sPlainF) f cdv A outer s H E).nox.A := hr.mono (by omega)
    refine ⟨_, pss_cons (ps_setLc (i := 2) (own := [("one", 3)]) (g := gName 3) (tt := tYes) (by rfl) scPlainF.nd rfl rfl (sw_true rfl rfl rfl (by decide +kernel)) (pi_list (pe_meth (pv 0) cT.cl mK FK hr1 bK .nil pass0 (pa_cons (pe_fld (pv 1) rfl) pa_nil))) (blkOk_by (own := [("one", 3)]) (N := ["table", "mount", "on", "one"]) (sc := defScope sPlainF) (by decide +kernel)) (fun _ _ _ _ _ => pg_name (i := 3) scPlainF.nd rfl (Or.inl rfl)) (fun _ _ _ _ _ => pts_nil) (fun _ _ _ _ _ => pe_never))
      (pss_one (ps_ret (pe_tup (pa_cons (pe_fld (pv 1) rfl) (pa_cons (pe_fld (pv 1) rfl) (pa_cons (pe_callTy call_tuple_of (by rfl) B.tuple (by decide +kernel) (pa_cons (pv 2) pa_nil)) pa_nil)))))), ?_⟩
    have nM : ∀ f ∈ mtN, NoAttr K CM f := cM.no
    refine ⟨_, rfl, A'.T, A'.dT, _, rfl, t.hT, rfl, _, rfl, A'.m, CM, A'.dm, _, .int 0, rfl, t.hm, cM.cl, nM _ (by decide +kernel), rfl, ?_⟩
    refine ⟨A'.T, A'.dT, _, A'.pl, _, A'.e, 0, rfl, t.hT, rfl, t.pl, rfl, t.e, fun l H2 s2 hl _ => ?_⟩
    refine ⟨l, rfl, ⟨_, SqL.of hl⟩, fun D hD => lc_list (K := K) (a := l) (xs := []) (fun i H' => H' D = some (.lst []) ∧ Same H2 H') ⟨upd_same, same_new hD⟩ (fun i H' _ h => SqL.of (h.2 _ _ hl)) ?_ ?_⟩
    · rintro i x H3 hx
      cases hx
    · rintro H3 ⟨h3, s3⟩
      have s13 := s2.trans s3
      have t3 := t.same s13
      refine ⟨_, rfl, A'.m, CM, A'.dm, _, .str z, rfl, t3.hm, cM.cl, nM _ (by decide +kernel), rfl, _, rfl, A'.m, CM, A'.dm, _, .ref A'.rt, rfl, t3.hm, cM.cl, nM _ (by decide +kernel), rfl, _, rfl, D, [], rfl, .inl ⟨SqL.of h3, fun on hon => ?_⟩⟩
      refine ⟨by show 3 ≤ sizeLine; decide, fun p hp => q _ _ (s13.trans ((same_new hon).trans (same_new hp))) ⟨p, A'.rt, on, rfl, upd_same, ((same_new hon).trans (same_new hp)) _ _ t3.rt, same_new hp _ _ upd_same⟩⟩
theorem ok_owner {f : Addr} {fd : FuncData} {k : Nat} (F : Fun K "owner" "World.owner" sOwner f fd) (cW : Cn K CW woN) (cT : Cn K CT tbN) (Su : MX P w K mg base 1 CT "sure_space" ["self", "space"] (spSureS K CT CM CS)) : FnOk P w K mg base (L2.CX P w) (k + 2) f fd ["self", "space"] (spWM K CW CT CM CS rO) := by
  obtain ⟨fS, fdS, mS, FS, bS⟩ := Su
  refine F.okX scOwner (fun vs H Q E h => ?_) (fun cdv A outer s H vs Q E hr h => ?_)
  · obtain ⟨x, dx, l1, l2, a, z, mo, B, v, rfl, _⟩ := h
    rfl
  · obtain ⟨x, dx, l1, l2, a, z, mo, B, v, rfl, W, q⟩ := h
    have hr1 : Room 1 (cxOf (L2.CX P w) P w K mg base ["self", "space"] "World.owner" (defScope sOwner) f cdv A outer s H E).A := hr.mono (by omega)
    rcases q with ⟨rfl, q⟩ | ⟨o, q⟩
    · refine ⟨_, pss_cons (ps_expr (pe_meth (pe_fld (pv 0) rfl) cT.cl mS FS hr1 bS .nil (passes_call (takes_of rfl rfl rfl rfl) (fun _ _ _ _ h => h)) (pa_cons (pv 1) pa_nil))) (pss_one (ps_ret (pe_dget (units1 hr) (pe_fld (pe_fld (pv 0) rfl) rfl) (pv 1) (fun _ _ => rfl)))), ?_⟩
      exact ⟨_, rfl, x, CW, dx, _, .ref B.T, rfl, W.hx, cW.cl, cW.no _ (by decide +kernel), rfl, B.T, B.dT, _, rfl, W.t.hT, rfl, _, rfl, a, z, mo, B, _, rfl, W.t, .inl ⟨rfl, _, rfl, x, CW, dx, _, .ref B.T, rfl, W.hx, cW.cl, cW.no _ (by decide +kernel), rfl, B.T, CT, B.dT, _, .ref B.ow, rfl, W.t.hT, cT.cl, cT.no _ (by decide +kernel), rfl, _, rfl, B.ow, .int 0, rfl, DGet.k (k := (Sum.inl 0 : Key)) W.t.ow, q _ _ (Same.refl H) rfl⟩⟩
    · refine ⟨_, pss_cons (ps_expr (pe_meth (pe_fld (pv 0) rfl) cT.cl mS FS hr1 bS .nil (passes_call (takes_of rfl rfl rfl rfl) (fun _ _ _ _ h => h)) (pa_cons (pv 1) pa_nil))) pss_no, ?_⟩
      exact ⟨_, rfl, x, CW, dx, _, .ref B.T, rfl, W.hx, cW.cl, cW.no _ (by decide +kernel), rfl, B.T, B.dT, _, rfl, W.t.hT, rfl, _, rfl, a, z, mo, B, _, rfl, W.t, .inr ⟨o, q _ (Same.refl H)⟩⟩
theorem ok_shown {f : Addr} {fd : FuncData} {k : Nat} (F : Fun K "shown" "World.shown" sShown f fd) (cW : Cn K CW woN) (cT : Cn K CT tbN) (Su : MX P w K mg base 1 CT "sure_space" ["self", "space"] (spSureS K CT CM CS)) : FnOk P w K mg base (L2.CX P w) (k + 2) f fd ["self", "space"] (spWO K CW CT CM CS) := by
  obtain ⟨fS, fdS, mS, FS, bS⟩ := Su
  refine F.okX scShown (fun vs H Q E h => ?_) (fun cdv A outer s H vs Q E hr h => ?_)
  · obtain ⟨x, dx, l1, l2, a, z, mo, B, v, rfl, _⟩ := h
    rfl
  · obtain ⟨x, dx, l1, l2, a, z, mo, B, v, rfl, W, o, q⟩ := h
    have hr1 : Room 1 (cxOf (L2.CX P w) P w K mg base ["self", "space"] "World.shown" (defScope sShown) f cdv A outer s H E).A := hr.mono (by omega)
    refine ⟨_, pss_cons (ps_expr (pe_meth (pe_fld (pv 0) rfl) cT.cl mS FS hr1 bS .nil (passes_call (takes_of rfl rfl rfl rfl) (fun _ _ _ _ h => h)) (pa_cons (pv 1) pa_nil))) pss_no, ?_⟩
    exact ⟨_, rfl, x, CW, dx, _, .ref B.T, rfl, W.hx, cW.cl, cW.no _ (by decide +kernel), rfl, B.T, B.dT, _, rfl, W.t.hT, rfl, _, rfl, a, z, mo, B, _, rfl, W.t, .inr ⟨o, q _ (Same.refl H)⟩⟩
theorem ok_walk {f : Addr} {fd : FuncData} {k : Nat} (F : Fun K "walk" "World.walk" sWalk f fd) (cW : Cn K CW woN) (cT : Cn K CT tbN) (Su : MX P w K mg base 1 CT "sure_space" ["self", "space"] (spSureS K CT CM CS)) : FnOk P w K mg base (L2.CX P w) (k + 2) f fd ["self", "space", "path"] (spWO2 K CW CT CM CS) := by
  obtain ⟨fS, fdS, mS, FS, bS⟩ := Su
  refine F.okX scWalk (fun vs H Q E h => ?_) (fun cdv A outer s H vs Q E hr h => ?_)
  · obtain ⟨x, dx, l1, l2, a, z, mo, B, v, u, rfl, _⟩ := h
    rfl
  · obtain ⟨x, dx, l1, l2, a, z, mo, B, v, u, rfl, W, o, q⟩ := h
    have hr1 : Room 1 (cxOf (L2.CX P w) P w K mg base ["self", "space", "path"] "World.walk" (defScope sWalk) f cdv A outer s H E).A := hr.mono (by omega)
    refine ⟨_, pss_cons (ps_expr (pe_meth (pe_fld (pv 0) rfl) cT.cl mS FS hr1 bS .nil (passes_call (takes_of rfl rfl rfl rfl) (fun _ _ _ _ h => h)) (pa_cons (pv 1) pa_nil))) pss_no, ?_⟩
    exact ⟨_, rfl, x, CW, dx, _, .ref B.T, rfl, W.hx, cW.cl, cW.no _ (by decide +kernel), rfl, B.T, B.dT, _, rfl, W.t.hT, rfl, _, rfl, a, z, mo, B, _, rfl, W.t, .inr ⟨o, q _ (Same.refl H)⟩⟩
theorem ok_plain {f : Addr} {fd : FuncData} {k : Nat} (F : Fun K "plain" "World.plain" sPlain f fd) (cW : Cn K CW woN) (cT : Cn K CT tbN) (Su : MX P w K mg base 1 CT "sure_space" ["self", "space"] (spSureS K CT CM CS)) (Pl : Cl P w K mg base CX0 2 "plain_form" ["table", "mount"] (spPlF CT CM)) : FnOk P w K mg base (L2.CX P w) (k + 3) f fd ["self", "space"] (spWM K CW CT CM CS rPl) := by
  obtain ⟨fS, fdS, mS, FS, bS⟩ := Su
  refine F.okX scPlain (fun vs H Q E h => ?_) (fun cdv A outer s H vs Q E hr h => ?_)
  · obtain ⟨x, dx, l1, l2, a, z, mo, B, v, rfl, _⟩ := h
    rfl
  · obtain ⟨x, dx, l1, l2, a, z, mo, B, v, rfl, W, q⟩ := h
    have hr1 : Room 1 (cxOf (L2.CX P w) P w K mg base ["self", "space"] "World.plain" (defScope sPlain) f cdv A outer s H E).A := hr.mono (by omega)
    have hr2 : Room 2 (cxOf (L2.CX P w) P w K mg base ["self", "space"] "World.plain" (defScope sPlain) f cdv A outer s H E).A := hr.mono (by omega)
    rcases q with ⟨rfl, q⟩ | ⟨o, q⟩
    · refine ⟨_, pss_cons (ps_expr (pe_meth (pe_fld (pv 0) rfl) cT.cl mS FS hr1 bS .nil (passes_call (takes_of rfl rfl rfl rfl) (fun _ _ _ _ h => h)) (pa_cons (pv 1) pa_nil))) (pss_one (ps_ret (pe_cl Pl hr (by omega) (by rfl) pass0 (pa_cons (pe_fld (pv 0) rfl) (pa_cons (pe_dget (units1 hr) (pe_fld (pe_fld (pv 0) rfl) rfl) (pe_dget (units1 hr) (pe_fld (pe_fld (pv 0) rfl) rfl) (pv 1) (fun _ _ => rfl)) (fun _ _ => rfl)) pa_nil))))), ?_⟩
      refine ⟨_, rfl, x, CW, dx, _, .ref B.T, rfl, W.hx, cW.cl, cW.no _ (by decide +kernel), rfl, B.T, B.dT, _, rfl, W.t.hT, rfl, _, rfl, a, z, mo, B, _, rfl, W.t, .inl ⟨rfl, _, rfl, x, CW, dx, _, .ref B.T, rfl, W.hx, cW.cl, cW.no _ (by decide +kernel), rfl, ?_⟩⟩
      exact ⟨_, rfl, x, CW, dx, _, .ref B.T, rfl, W.hx, cW.cl, cW.no _ (by decide +kernel), rfl, B.T, CT, B.dT, _, .ref B.kn, rfl, W.t.hT, cT.cl, cT.no _ (by decide +kernel), rfl, _, rfl, x, CW, dx, _, .ref B.T, rfl, W.hx, cW.cl, cW.no _ (by decide +kernel), rfl, B.T, CT, B.dT, _, .ref B.tp, rfl, W.t.hT, cT.cl, cT.no _ (by decide +kernel), rfl, _, rfl, B.tp, .int 0, rfl, DGet.k (k := (Sum.inl 0 : Key)) W.t.tp, B.kn, .ref B.m, rfl, DGet.k (k := (Sum.inl 0 : Key)) W.t.kn, a, z, mo, B, rfl, W.t, fun u H1 s1 r => q u H1 s1 r⟩
    · refine ⟨_, pss_cons (ps_expr (pe_meth (pe_fld (pv 0) rfl) cT.cl mS FS hr1 bS .nil (passes_call (takes_of rfl rfl rfl rfl) (fun _ _ _ _ h => h)) (pa_cons (pv 1) pa_nil))) pss_no, ?_⟩
      exact ⟨_, rfl, x, CW, dx, _, .ref B.T, rfl, W.hx, cW.cl, cW.no _ (by decide +kernel), rfl, B.T, B.dT, _, rfl, W.t.hT, rfl, _, rfl, a, z, mo, B, _, rfl, W.t, .inr ⟨o, q _ (Same.refl H)⟩⟩
theorem ok_mounts {f : Addr} {fd : FuncData} {k : Nat} (F : Fun K "mounts" "World.mounts" sMounts f fd) (cW : Cn K CW woN) (cT : Cn K CT tbN) (Su : MX P w K mg base 1 CT "sure_space" ["self", "space"] (spSureS K CT CM CS)) (cM : Cn K CM mtN) (B' : Bi mg) : FnOk P w K mg base (L2.CX P w) (k + 2) f fd ["self", "space"] (spWM K CW CT CM CS rL0) := by
  obtain ⟨fS, fdS, mS, FS, bS⟩ := Su
  refine F.okX scMounts (fun vs H Q E h => ?_) (fun cdv A outer s H vs Q E hr h => ?_)
  · obtain ⟨x, dx, l1, l2, a, z, mo, B, v, rfl, _⟩ := h
    rfl
  · obtain ⟨x, dx, l1, l2, a, z, mo, B, v, rfl, W, q⟩ := h
    have hr1 : Room 1 (cxOf (L2.CX P w) P w K mg base ["self", "space", "mount"] "World.mounts" (defScope sMounts) f cdv A outer s H E).A := hr.mono (by omega)
    rcases q with ⟨rfl, q⟩ | ⟨o, q⟩
    · refine ⟨_, pss_cons (ps_expr (pe_meth (pe_fld (pv 0) rfl) cT.cl mS FS hr1 bS .nil (passes_call (takes_of rfl rfl rfl rfl) (fun _ _ _ _ h => h)) (pa_cons (pv 1) pa_nil))) (pss_one (ps_ret (pe_lock (pe_callB cr_sorted (by rfl) B'.sorted boot_sorted (pa_cons (pe_lc (own := [("mount", 2)]) (g := gName 2) (tt := tTest (tOp rEq (tFld K (tVar 2) "space") (tVar 1))) (te := tFld K (tVar 2) "number") (by rfl) scMounts.nd (pi_values (pe_fld (pe_fld (pv 0) rfl) rfl)) (blkOk_by (own := [("mount", 2)]) (N := ["self", "space", "mount"]) (sc := defScope sMounts) (by decide +kernel)) (fun _ _ _ _ _ => pg_name (i := 2) scMounts.nd rfl (Or.inl rfl)) (fun _ _ _ _ _ => pts_one (pt_cmpR op_eq (pe_fld (pv 2) rfl) (pv 1) (nomark _))) (fun _ _ _ _ _ => pe_fld (pv 2) rfl)) pa_nil))))), ?_⟩
      refine ⟨_, rfl, x, CW, dx, _, .ref B.T, rfl, W.hx, cW.cl, cW.no _ (by decide +kernel), rfl, B.T, B.dT, _, rfl, W.t.hT, rfl, _, rfl, a, z, mo, B, _, rfl, W.t, .inl ⟨rfl, B.kn, _, W.t.kn, trivial, fun od => ?_⟩⟩
      have nk : ∀ {e o}, H e = some o → o ≠ .dK [((Sum.inl 0 : Key), .ref B.m)] → upd H B.kn (.frz od (.dK [((Sum.inl 0 : Key), .ref B.m)])) e = some o := fun {e o} h n => by
        rw [upd_ne (ne_of h W.t.kn n)]
        exact h
      have hx1 := nk W.hx (by intro z; cases z)
      have hT1 := nk W.t.hT (by intro z; cases z)
      have hm1 := nk W.t.hm (by intro z; cases z)
      refine ⟨_, rfl, x, CW, dx, _, .ref B.T, rfl, hx1, cW.cl, cW.no _ (by decide +kernel), rfl, B.T, CT, B.dT, _, .ref B.kn, rfl, hT1, cT.cl, cT.no _ (by decide +kernel), rfl, B.kn, od, _, rfl, upd_same, fun D hD => lc_it walk_values (fun i H' => H' D = some (.lst (([0] : List Int).take i |>.map V.int)) ∧ Same (upd H B.kn (.frz od (.dK [((Sum.inl 0 : Key), .ref B.m)]))) H') ⟨upd_same, same_new hD⟩ (fun i H' _ h => h.2 _ _ upd_same) ?_ ?_⟩
      · rintro i y H1 H2 hi ⟨h3, sm⟩ ⟨rfl, kk, hy⟩
        have hi0 : i = 0 := by
          have : i < 1 := hi
          omega
        subst hi0
        cases hy
        refine ⟨rfl, _, rfl, B.m, CM, B.dm, _, .int 0, rfl, sm _ _ hm1, cM.cl, cM.no _ (by decide +kernel), rfl, _, rfl, rfl, _, rfl, iteT ⟨_, rfl, B.m, CM, B.dm, _, .int 0, rfl, sm _ _ hm1, cM.cl, cM.no _ (by decide +kernel), rfl, _, h3, by decide, ?_, same_mut hD sm⟩⟩
        rw [upd_same]
        rfl
      · rintro H1 ⟨h3, sm⟩
        refine ⟨D, [0], rfl, SqL.of h3, by decide, fun ns p hp _ hn => ?_⟩
        have en : ns = [0] := List.perm_singleton.mp hp
        subst en
        have nkp : B.kn ≠ p := fun z => by
          have := sm _ _ (upd_same (H := H) (a := B.kn) (o := HO.frz od (.dK [((Sum.inl 0 : Key), .ref B.m)])))
          rw [z, hn] at this
          cases this
        refine ⟨?_, q _ _ (fun b o hb => ?_) ⟨p, rfl, ?_⟩⟩
        · rw [upd_ne nkp]
          exact sm _ _ upd_same
        · by_cases e : b = B.kn
          · subst e
            rw [W.t.kn] at hb
            cases hb
            exact upd_same
          · rw [upd_ne e]
            exact same_new hn _ _ (sm _ _ (by rw [upd_ne e]; exact hb))
        · rw [upd_ne (Ne.symm nkp)]
          exact upd_same
    · refine ⟨_, pss_cons (ps_expr (pe_meth (pe_fld (pv 0) rfl) cT.cl mS FS hr1 bS .nil (passes_call (takes_of rfl rfl rfl rfl) (fun _ _ _ _ h => h)) (pa_cons (pv 1) pa_nil))) pss_no, ?_⟩
      exact ⟨_, rfl, x, CW, dx, _, .ref B.T, rfl, W.hx, cW.cl, cW.no _ (by decide +kernel), rfl, B.T, B.dT, _, rfl, W.t.hT, rfl, _, rfl, a, z, mo, B, _, rfl, W.t, .inr ⟨o, q _ (Same.refl H)⟩⟩
theorem ok_told {f : Addr} {fd : FuncData} {k : Nat} (F : Fun K "told" "World.told" sTold f fd) (cW : Cn K CW woN) (cT : Cn K CT tbN) (cM : Cn K CM mtN) (Su : MX P w K mg base 1 CT "mount" ["self", "number"] (spMount K CT CM CS)) (Kd : Mt P w K mg base 1 CM "kind" ["self", "masters"] (spMtK CM)) : FnOk P w K mg base (L2.CX P w) (k + 2) f fd ["self", "number"] (spWM K CW CT CM CS rTo) := by
  obtain ⟨fS, fdS, mS, FS, bS⟩ := Su
  obtain ⟨fK, fdK, mK, FK, bK⟩ := Kd
  refine F.okX scTold (fun vs H Q E h => ?_) (fun cdv A outer s H vs Q E hr h => ?_)
  · obtain ⟨x, dx, l1, l2, a, z, mo, B, v, rfl, _⟩ := h
    rfl
  · obtain ⟨x, dx, l1, l2, a, z, mo, B, v, rfl, W, q⟩ := h
    have hr1 : Room 1 (cxOf (L2.CX P w) P w K mg base ["self", "number", "mount", "kind"] "World.told" (defScope sTold) f cdv A outer s H E).A := hr.mono (by omega)
    rcases q with ⟨rfl, q⟩ | ⟨o, q⟩
    · refine ⟨_, pss_cons (ps_set (i := 2) scTold.nd rfl (.inl rfl) (pe_meth (pe_fld (pv 0) rfl) cT.cl mS FS hr1 bS .nil (passes_call (takes_of rfl rfl rfl rfl) (fun _ _ _ _ h => h)) (pa_cons (pv 1) pa_nil))) (pss_cons (ps_set (i := 3) scTold.nd rfl (.inl rfl) (pe_meth (pv 2) cM.cl mK FK hr1 bK .nil pass0 (pa_cons (pe_fld (pe_fld (pv 0) rfl) rfl) pa_nil))) (pss_one (ps_ret (pe_tup (pa_cons (pe_fld (pv 2) rfl) (pa_cons (pe_fld (pv 2) rfl) (pa_cons (pe_fld (pv 2) rfl) (pa_cons (pe_fld (pv 2) rfl) (pa_cons (pe_fld (pv 2) rfl) (pa_cons (pv 3) (pa_cons (pe_fld (pv 2) rfl) pa_nil))))))))))), ?_⟩
      refine ⟨_, rfl, x, CW, dx, _, .ref B.T, rfl, W.hx, cW.cl, cW.no _ (by decide +kernel), rfl, B.T, B.dT, _, rfl, W.t.hT, rfl, _, rfl, a, z, mo, B, _, rfl, W.t, .inl ⟨rfl, _, rfl, B.m, B.dm, _, rfl, W.t.hm, rfl, _, rfl, x, CW, dx, _, .ref B.T, rfl, W.hx, cW.cl, cW.no _ (by decide +kernel), rfl, B.T, CT, B.dT, _, .ref B.ms, rfl, W.t.hT, cT.cl, cT.no _ (by decide +kernel), rfl, B.m, B.dm, _, _, _, _, _, _, _, _, _, rfl, W.t.hm, ?_⟩⟩
      exact ⟨_, rfl, B.m, CM, B.dm, _, .int 0, rfl, W.t.hm, cM.cl, cM.no _ (by decide +kernel), rfl, _, rfl, B.m, CM, B.dm, _, .str z, rfl, W.t.hm, cM.cl, cM.no _ (by decide +kernel), rfl, _, rfl, B.m, CM, B.dm, _, .ref B.rt, rfl, W.t.hm, cM.cl, cM.no _ (by decide +kernel), rfl, _, rfl, B.m, CM, B.dm, _, .non, rfl, W.t.hm, cM.cl, cM.no _ (by decide +kernel), rfl, _, rfl, B.m, CM, B.dm, _, .non, rfl, W.t.hm, cM.cl, cM.no _ (by decide +kernel), rfl, _, rfl, _, rfl, B.m, CM, B.dm, _, .bl false, rfl, W.t.hm, cM.cl, cM.no _ (by decide +kernel), rfl, by show 7 ≤ sizeLine; decide, fun p hp => q _ _ (same_new hp) ⟨p, B.rt, rfl, upd_same, same_new hp _ _ W.t.rt⟩⟩
    · refine ⟨_, pss_cons (ps_set (i := 2) scTold.nd rfl (.inl rfl) (pe_meth (pe_fld (pv 0) rfl) cT.cl mS FS hr1 bS .nil (passes_call (takes_of rfl rfl rfl rfl) (fun _ _ _ _ h => h)) (pa_cons (pv 1) pa_nil))) pss_no, ?_⟩
      exact ⟨_, rfl, x, CW, dx, _, .ref B.T, rfl, W.hx, cW.cl, cW.no _ (by decide +kernel), rfl, B.T, B.dT, _, rfl, W.t.hT, rfl, _, rfl, a, z, mo, B, _, rfl, W.t, .inr ⟨o, q _ (Same.refl H)⟩⟩
theorem ok_peers {f : Addr} {fd : FuncData} {k : Nat} (F : Fun K "peers" "World.peers" sPeers f fd) (cW : Cn K CW woN) (cT : Cn K CT tbN) (cM : Cn K CM mtN) (Su : MX P w K mg base 1 CT "mount" ["self", "number"] (spMount K CT CM CS)) : FnOk P w K mg base (L2.CX P w) (k + 2) f fd ["self", "number"] (spWM K CW CT CM CS rL0) := by
  obtain ⟨fS, fdS, mS, FS, bS⟩ := Su
  refine F.okX scPeers (fun vs H Q E h => ?_) (fun cdv A outer s H vs Q E hr h => ?_)
  · obtain ⟨x, dx, l1, l2, a, z, mo, B, v, rfl, _⟩ := h
    rfl
  · obtain ⟨x, dx, l1, l2, a, z, mo, B, v, rfl, W, q⟩ := h
    have hr1 : Room 1 (cxOf (L2.CX P w) P w K mg base ["self", "number", "mount"] "World.peers" (defScope sPeers) f cdv A outer s H E).A := hr.mono (by omega)
    rcases q with ⟨rfl, q⟩ | ⟨o, q⟩
    · refine ⟨_, pss_cons (ps_set (i := 2) scPeers.nd rfl (.inl rfl) (pe_meth (pe_fld (pv 0) rfl) cT.cl mS FS hr1 bS .nil (passes_call (takes_of rfl rfl rfl rfl) (fun _ _ _ _ h => h)) (pa_cons (pv 1) pa_nil))) (pss_one (ps_ret (pe_ifExp (pt_cmpR op_isN (pe_fld (pv 2) rfl) pe_non (nomark _)) (pe_lst (pa_cons (pv 1) pa_nil)) pe_never))), ?_⟩
      exact ⟨_, rfl, x, CW, dx, _, .ref B.T, rfl, W.hx, cW.cl, cW.no _ (by decide +kernel), rfl, B.T, B.dT, _, rfl, W.t.hT, rfl, _, rfl, a, z, mo, B, _, rfl, W.t, .inl ⟨rfl, _, rfl, B.m, CM, B.dm, _, .non, rfl, W.t.hm, cM.cl, cM.no _ (by decide +kernel), rfl, rfl, _, rfl, iteT ⟨_, rfl, by show 1 ≤ sizeLine; decide, fun p hp => q _ _ (same_new hp) ⟨p, rfl, upd_same⟩⟩⟩⟩
    · refine ⟨_, pss_cons (ps_set (i := 2) scPeers.nd rfl (.inl rfl) (pe_meth (pe_fld (pv 0) rfl) cT.cl mS FS hr1 bS .nil (passes_call (takes_of rfl rfl rfl rfl) (fun _ _ _ _ h => h)) (pa_cons (pv 1) pa_nil))) pss_no, ?_⟩
      exact ⟨_, rfl, x, CW, dx, _, .ref B.T, rfl, W.hx, cW.cl, cW.no _ (by decide +kernel), rfl, B.T, B.dT, _, rfl, W.t.hT, rfl, _, rfl, a, z, mo, B, _, rfl, W.t, .inr ⟨o, q _ (Same.refl H)⟩⟩
theorem ok_followed {f : Addr} {fd : FuncData} {k : Nat} (F : Fun K "followed" "World.followed" sFollowed f fd) (cW : Cn K CW woN) (cT : Cn K CT tbN) (cM : Cn K CM mtN) (Su : MX P w K mg base 1 CT "mount" ["self", "number"] (spMount K CT CM CS)) : FnOk P w K mg base (L2.CX P w) (k + 2) f fd ["self", "number"] (spWM K CW CT CM CS rLe) := by
  obtain ⟨fS, fdS, mS, FS, bS⟩ := Su
  refine F.okX scFollowed (fun vs H Q E h => ?_) (fun cdv A outer s H vs Q E hr h => ?_)
  · obtain ⟨x, dx, l1, l2, a, z, mo, B, v, rfl, _⟩ := h
    rfl
  · obtain ⟨x, dx, l1, l2, a, z, mo, B, v, rfl, W, q⟩ := h
    have hr1 : Room 1 (cxOf (L2.CX P w) P w K mg base ["self", "number", "mount", "group"] "World.followed" (defScope sFollowed) f cdv A outer s H E).A := hr.mono (by omega)
    rcases q with ⟨rfl, q⟩ | ⟨o, q⟩
    · refine ⟨_, pss_cons (ps_set (i := 2) scFollowed.nd rfl (.inl rfl) (pe_meth (pe_fld (pv 0) rfl) cT.cl mS FS hr1 bS .nil (passes_call (takes_of rfl rfl rfl rfl) (fun _ _ _ _ h => h)) (pa_cons (pv 1) pa_nil))) (pss_cons (ps_set (i := 3) scFollowed.nd rfl (.inl rfl) (pe_ifExp (pt_cmpR op_isN (pe_fld (pv 2) rfl) pe_non (nomark _)) (pe_fld (pv 2) rfl) pe_never)) (pss_one (ps_ret (pe_ifExp (pt_cmpR op_isN (pv 3) pe_non (nomark _)) (pe_lst pa_nil) pe_never)))), ?_⟩
      exact ⟨_, rfl, x, CW, dx, _, .ref B.T, rfl, W.hx, cW.cl, cW.no _ (by decide +kernel), rfl, B.T, B.dT, _, rfl, W.t.hT, rfl, _, rfl, a, z, mo, B, _, rfl, W.t, .inl ⟨rfl, _, rfl, B.m, CM, B.dm, _, .non, rfl, W.t.hm, cM.cl, cM.no _ (by decide +kernel), rfl, rfl, _, rfl, iteT ⟨_, rfl, B.m, CM, B.dm, _, .non, rfl, W.t.hm, cM.cl, cM.no _ (by decide +kernel), rfl, _, rfl, rfl, _, rfl, iteT ⟨by show 0 ≤ sizeLine; decide, fun p hp => q _ _ (same_new hp) ⟨p, rfl, upd_same⟩⟩⟩⟩⟩
    · refine ⟨_, pss_cons (ps_set (i := 2) scFollowed.nd rfl (.inl rfl) (pe_meth (pe_fld (pv 0) rfl) cT.cl mS FS hr1 bS .nil (passes_call (takes_of rfl rfl rfl rfl) (fun _ _ _ _ h => h)) (pa_cons (pv 1) pa_nil))) pss_no, ?_⟩
      exact ⟨_, rfl, x, CW, dx, _, .ref B.T, rfl, W.hx, cW.cl, cW.no _ (by decide +kernel), rfl, B.T, B.dT, _, rfl, W.t.hT, rfl, _, rfl, a, z, mo, B, _, rfl, W.t, .inr ⟨o, q _ (Same.refl H)⟩⟩
theorem ok_receivers {f : Addr} {fd : FuncData} {k : Nat} (F : Fun K "receivers" "World.receivers" sReceivers f fd) (cW : Cn K CW woN) (cT : Cn K CT tbN) (cM : Cn K CM mtN) (Su : MX P w K mg base 1 CT "mount" ["self", "number"] (spMount K CT CM CS)) (Rc : Mt P w K mg base 1 CT "receivers" ["self", "mount"] (spTRec CT CM)) : FnOk P w K mg base (L2.CX P w) (k + 2) f fd ["self", "number"] (spWM K CW CT CM CS rL0) := by
  obtain ⟨fS, fdS, mS, FS, bS⟩ := Su
  obtain ⟨fK, fdK, mK, FK, bK⟩ := Rc
  refine F.okX scReceivers (fun vs H Q E h => ?_) (fun cdv A outer s H vs Q E hr h => ?_)
  · obtain ⟨x, dx, l1, l2, a, z, mo, B, v, rfl, _⟩ := h
    rfl
  · obtain ⟨x, dx, l1, l2, a, z, mo, B, v, rfl, W, q⟩ := h
    have hr1 : Room 1 (cxOf (L2.CX P w) P w K mg base ["self", "number"] "World.receivers" (defScope sReceivers) f cdv A outer s H E).A := hr.mono (by omega)
    rcases q with ⟨rfl, q⟩ | ⟨o, q⟩
    · refine ⟨_, pss_one (ps_ret (pe_meth (pe_fld (pv 0) rfl) cT.cl mK FK hr1 bK .nil pass0 (pa_cons (pe_meth (pe_fld (pv 0) rfl) cT.cl mS FS hr1 bS .nil (passes_call (takes_of rfl rfl rfl rfl) (fun _ _ _ _ h => h)) (pa_cons (pv 1) pa_nil)) pa_nil))), ?_⟩
      exact ⟨_, rfl, x, CW, dx, _, .ref B.T, rfl, W.hx, cW.cl, cW.no _ (by decide +kernel), rfl, B.T, B.dT, _, rfl, W.t.hT, rfl, _, rfl, x, CW, dx, _, .ref B.T, rfl, W.hx, cW.cl, cW.no _ (by decide +kernel), rfl, B.T, B.dT, _, rfl, W.t.hT, rfl, _, rfl, a, z, mo, B, _, rfl, W.t, .inl ⟨rfl, a, z, mo, B, rfl, W.t, fun p hp => q _ _ (same_new hp) ⟨p, rfl, upd_same⟩⟩⟩
    · refine ⟨_, pss_one (ps_ret (pe_meth (pe_fld (pv 0) rfl) cT.cl mK FK hr1 bK .nil pass0 (pa_cons (pe_meth (pe_fld (pv 0) rfl) cT.cl mS FS hr1 bS .nil (passes_call (takes_of rfl rfl rfl rfl) (fun _ _ _ _ h => h)) (pa_cons (pv 1) pa_nil)) pa_nil))), ?_⟩
      exact ⟨_, rfl, x, CW, dx, _, .ref B.T, rfl, W.hx, cW.cl, cW.no _ (by decide +kernel), rfl, B.T, B.dT, _, rfl, W.t.hT, rfl, _, rfl, x, CW, dx, _, .ref B.T, rfl, W.hx, cW.cl, cW.no _ (by decide +kernel), rfl, B.T, B.dT, _, rfl, W.t.hT, rfl, _, rfl, a, z, mo, B, _, rfl, W.t, .inr ⟨o, q _ (Same.refl H)⟩⟩
theorem ok_trusted {f : Addr} {fd : FuncData} {k : Nat} (F : Fun K "trusted" "World.trusted" sTrusted f fd) (cW : Cn K CW woN) (Ow : MX P w K mg base 2 CW "owner" ["self", "space"] (spWM K CW CT CM CS rO)) : FnOk P w K mg base (L2.CX P w) (k + 3) f fd ["self", "space"] (spWM K CW CT CM CS rT) := by
  obtain ⟨fS, fdS, mS, FS, bS⟩ := Ow
  refine F.okX scTrusted (fun vs H Q E h => ?_) (fun cdv A outer s H vs Q E hr h => ?_)
  · obtain ⟨x, dx, l1, l2, a, z, mo, B, v, rfl, _⟩ := h
    rfl
  · obtain ⟨x, dx, l1, l2, a, z, mo, B, v, rfl, W, q⟩ := h
    have hr1 : Room 1 (cxOf (L2.CX P w) P w K mg base ["self", "space"] "World.trusted" (defScope sTrusted) f cdv A outer s H E).A := hr.mono (by omega)
    have hr2 : Room 2 (cxOf (L2.CX P w) P w K mg base ["self", "space"] "World.trusted" (defScope sTrusted) f cdv A outer s H E).A := hr.mono (by omega)
    rcases q with ⟨rfl, q⟩ | ⟨o, q⟩
    · refine ⟨_, pss_one (ps_ret (pe_cmpR op_eq (pe_meth (pv 0) cW.cl mS FS hr2 bS .nil (passes_call (takes_of rfl rfl rfl rfl) (fun _ _ _ _ h => h)) (pa_cons (pv 1) pa_nil)) pe_int (nomark _))), ?_⟩
      refine ⟨_, rfl, x, dx, _, rfl, W.hx, rfl, _, rfl, x, dx, l1, l2, a, z, mo, B, _, rfl, W, .inl ⟨rfl, fun u H1 s1 r => ?_⟩⟩
      cases r
      exact ⟨rfl, q _ _ s1 rfl⟩
    · refine ⟨_, pss_one (ps_ret (pe_cmpR op_eq (pe_meth (pv 0) cW.cl mS FS hr2 bS .nil (passes_call (takes_of rfl rfl rfl rfl) (fun _ _ _ _ h => h)) (pa_cons (pv 1) pa_nil)) pe_int (nomark _))), ?_⟩
      exact ⟨_, rfl, x, dx, _, rfl, W.hx, rfl, _, rfl, x, dx, l1, l2, a, z, mo, B, _, rfl, W, .inr ⟨o, q⟩⟩
def spPT (K : PySem.W.Frag) (CT CM CS : Addr) : Sp := fun vs H Q E => ∃ a z mo B v u, vs = [.ref B.T, v, u] ∧ TAt H CT CM a z mo B ∧ OdAt K H v ∧ E (.ref CS) none H
theorem ok_pathTo {f : Addr} {fd : FuncData} {k : Nat} (F : Fun K "path_to" "path_to" sPathTo f fd) (cT : Cn K CT tbN) (Su : MX P w K mg base 1 CT "mount" ["self", "number"] (spMount K CT CM CS)) : FnOk P w K mg base (L2.CX P w) (k + 2) f fd ["table", "number", "node"] (spPT K CT CM CS) := by
  obtain ⟨fS, fdS, mS, FS, bS⟩ := Su
  refine F.okX scPathTo (fun vs H Q E h => ?_) (fun cdv A outer s H vs Q E hr h => ?_)
  · obtain ⟨a, z, mo, B, v, u, rfl, _⟩ := h
    rfl
  · obtain ⟨a, z, mo, B, v, u, rfl, t, o, q⟩ := h
    have hr1 : Room 1 (cxOf (L2.CX P w) P w K mg base ["table", "number", "node", "mount", "tree", "path", "root", "walker", "found"] "path_to" (defScope sPathTo) f cdv A outer s H E).A := hr.mono (by omega)
    refine ⟨_, pss_cons (ps_set (i := 3) scPathTo.nd rfl (.inl rfl) (pe_meth (pv 0) cT.cl mS FS hr1 bS .nil (passes_call (takes_of rfl rfl rfl rfl) (fun _ _ _ _ h => h)) (pa_cons (pv 1) pa_nil))) pss_no, ?_⟩
    exact ⟨_, rfl, B.T, B.dT, _, rfl, t.hT, rfl, _, rfl, a, z, mo, B, _, rfl, t, .inr ⟨o, q⟩⟩
theorem ok_path_of {f : Addr} {fd : FuncData} {k : Nat} (F : Fun K "path_of" "World.path_of" sPathOf f fd) (cW : Cn K CW woN) (Pt : Cl P w K mg base (L2.CX P w) 2 "path_to" ["table", "number", "node"] (spPT K CT CM CS)) : FnOk P w K mg base (L2.CX P w) (k + 3) f fd ["self", "number", "node"] (spWO2 K CW CT CM CS) := by
  refine F.okX scPathOf (fun vs H Q E h => ?_) (fun cdv A outer s H vs Q E hr h => ?_)
  · obtain ⟨x, dx, l1, l2, a, z, mo, B, v, u, rfl, _⟩ := h
    rfl
  · obtain ⟨x, dx, l1, l2, a, z, mo, B, v, u, rfl, W, o, q⟩ := h
    refine ⟨_, pss_one (ps_ret (pe_cl Pt hr (by omega) (by rfl) (passes_call (takes_of rfl rfl rfl rfl) (fun _ _ _ _ h => h)) (pa_cons (pe_fld (pv 0) rfl) (pa_cons (pv 1) (pa_cons (pv 2) pa_nil))))), ?_⟩
    exact ⟨_, rfl, x, CW, dx, _, .ref B.T, rfl, W.hx, cW.cl, cW.no _ (by decide +kernel), rfl, _, rfl, _, rfl, a, z, mo, B, v, u, rfl, W.t, o, q _ (Same.refl H)⟩
end
end Tx
set_option Elab.async false
set_option linter.all false
set_option maxRecDepth 100000
set_option maxHeartbeats 8000000
namespace Tx
open PySem PySem.Spec PyProof.Rows L2 Cm
theorem scDigit : FnScope ["_law_state", "_law_base", "_law_cell", "_law_found", "_law_number"] ["_law_state", "_law_base"] (defScope sDigit) := ⟨rfl, rfl, rfl, by decide +kernel, rfl, by decide +kernel, by decide +kernel⟩
theorem scCell : FnScope ["_law_script", "_law_k"] ["_law_script", "_law_k"] (defScope sCell) := ⟨rfl, rfl, rfl, by decide +kernel, rfl, by decide +kernel, by decide +kernel⟩
/-- _law_cell_at -/
def spCell (K : PySem.W.Frag) : Sp := fun vs H Q _ => ∃ (a : Addr) (ns : List Int) (k : Nat), vs = [.ref a, .int k] ∧ SqL K H a (ns.map V.int) ∧ ∀ i : Int, (∀ j, ns[k]? = some j → i = j) → Q (.int i) H
section
variable {P : Program} {w : World} {K : PySem.W.Frag} {mg : Str → Option Value} {base : Heap}
theorem ok_cell {f : Addr} {fd : FuncData} {k : Nat} (F : Fun K "_law_cell_at" "_law_cell_at" sCell f fd) (B : Bi mg) : FnOk P w K mg base CX0 (k + 1) f fd ["_law_script", "_law_k"] (spCell K) := by
  refine F.ok scCell (fun vs H Q E h => ?_) (fun cdv A outer s H vs Q E hr h => ?_)
  · obtain ⟨a, ns, j, rfl, _⟩ := h
    rfl
  · obtain ⟨a, ns, j, rfl, hS, q⟩ := h
    refine ⟨_, pss_cons (ps_if (pt_cmpR op_lt (pv 1) (pe_callB call_len_seq (by rfl) B.len PySem.boot_len (pa_cons (pv 0) pa_nil)) (nomark _)) (pss_one (ps_ret (pe_ix ix_list (pv 0) (pv 1) (fun _ _ => rfl)))) pss_nil) (pss_one (ps_ret pe_int)), ?_⟩
    refine ⟨_, rfl, _, rfl, a, _, rfl, .inl hS, _, _, rfl, rfl, _, rfl, ite2 (fun c => ?_) (fun c => ?_)⟩
    · have c' : (j : Int) < ((ns.map V.int).length : Nat) := of_decide_eq_true c
      rw [List.length_map] at c'
      have hj : j < ns.length := by omega
      refine ⟨_, rfl, _, rfl, a, _, j, .int ns[j], rfl, rfl, hS, ?_, q _ fun i e => ?_⟩
      · refine atI_nat ?_
        rw [List.getElem?_map, List.getElem?_eq_getElem hj]
        rfl
      · rw [List.getElem?_eq_getElem hj] at e
        exact Option.some.inj e
    · have c' : ¬ (j : Int) < ((ns.map V.int).length : Nat) := fun z => c (decide_eq_true z)
      rw [List.length_map] at c'
      exact q 0 fun i e => by
        have := (List.getElem?_eq_some_iff.mp e).1
        omega
theorem ok_digit {f : Addr} {fd : FuncData} {k : Nat} (F : Fun K "_law_digit" "_law_digit" sDigit f fd) (B : Bi mg) : FnOk P w K mg base CX0 (k + 1) f fd ["_law_state", "_law_base"] spDigit := by
  refine F.ok scDigit (fun vs H Q E h => ?_) (fun cdv A outer s H vs Q E hr h => ?_)
  · obtain ⟨l, st, b, rfl, _⟩ := h
    rfl
  · obtain ⟨l, st, b, rfl, hl, hst, hb0, hb1, q⟩ := h
    refine ⟨_, C8.pss_cut (ps_if (pt_cmpR op_eq (pe_callB call_len_seq (by rfl) B.len PySem.boot_len (pa_cons (pv 0) pa_nil)) pe_int (nomark _))
        (pss_cons (ps_set (i := 2) scDigit.nd rfl (.inl rfl) (pe_ix ix_list (pv 0) pe_int (fun _ _ => rfl)))
        (pss_cons (ps_asg (pe_ix ix_list (pe_lst (pa_cons pe_int (pa_cons (pv 2) pa_nil))) (pe_callTy call_int1 (by rfl) B.int (by decide +kernel) (pa_cons (pe_cmpR op_ge (pv 2) (pe_op op_pow pe_int pe_int) (nomark _)) pa_nil)) (fun _ _ => rfl)) (pg_sub (pv 0) pe_int set_list))
          (pss_one (ps_expr (pe_bm PySem.F.plainAttrs_list PySem.F.slot_list_extend PySem.F.type_list_extend mt_extend (pv 0) (pa_cons (pe_lst (pa_cons (pe_op op_mod (pe_callTy call_int1 (by rfl) B.int (by decide +kernel) (pa_cons (pv 2) pa_nil)) pe_int) (pa_cons pe_int pa_nil))) pa_nil))))))
        pss_nil)
      (pss_cons (ps_if (pt_cmpR op_gt (pe_ix ix_list (pv 0) pe_int (fun _ _ => rfl)) pe_int (nomark _))
        (pss_cons (ps_set (i := 3) scDigit.nd rfl (.inl rfl) (pe_op op_mod (pe_callTy call_int1 (by rfl) B.int (by decide +kernel) (pa_cons (pe_ix ix_list (pv 0) pe_int (fun _ _ => rfl)) pa_nil)) (pv 1)))
          (pss_cons (ps_asg (pe_op op_fdiv (pe_ix ix_list (pv 0) pe_int (fun _ _ => rfl)) (pv 1)) (pg_sub (pv 0) pe_int set_list))
          (pss_one (ps_ret (pv 3))))) pss_nil)
      (pss_cons (ps_asg (pe_op op_add (pe_ix ix_list (pv 0) pe_int (fun _ _ => rfl)) pe_int) (pg_sub (pv 0) pe_int set_list))
      (pss_cons (ps_set (i := 4) scDigit.nd rfl (.inl rfl) (pe_op op_mod (pe_callTy call_int1 (by rfl) B.int (by decide +kernel) (pa_cons (pe_op op_mul (pe_op op_add (pe_op op_add (pe_ix ix_list (pv 0) pe_int (fun _ _ => rfl)) (pe_op op_mul pe_int (pe_ix ix_list (pv 0) pe_int (fun _ _ => rfl)))) pe_int) pe_int) pa_nil)) pe_int))
      (pss_cons (ps_set (i := 4) scDigit.nd rfl (.inl rfl) (pe_op op_mod (pe_callTy call_int1 (by rfl) B.int (by decide +kernel) (pa_cons (pe_op op_mul (pv 4) (pe_op op_add (pe_op op_fdiv (pv 4) pe_int) pe_int)) pa_nil)) pe_int))
      (pss_one (ps_ret (pe_op op_mod (pe_op op_mod (pe_callTy call_int1 (by rfl) B.int (by decide +kernel) (pa_cons (pe_op op_mul (pv 4) (pe_op op_add (pe_op op_fdiv (pv 4) pe_int) pe_int)) pa_nil)) pe_int) (pv 1)))))))), ?_⟩
    refine ⟨fun σ' H' => ∃ x a b' c, σ' = [some (.ref l), some (.int b), x, none, none] ∧ H' l = some (.lst [.int a, .int b', .int c]) ∧ But l H H', ?_, ?_⟩
    · refine ⟨_, rfl, l, st, rfl, .inl (SqL.of hl), rfl, _, rfl, ?_⟩
      rcases hst with ⟨c, rfl⟩ | ⟨a, b', c, rfl⟩
      · refine iteT ?_
        refine ⟨_, rfl, l, _, 0, .int c, rfl, rfl, SqL.of hl, rfl, ?_⟩
        refine ⟨_, rfl, (by show 2 ≤ sizeLine; decide), fun p hp => ?_⟩
        refine ⟨_, rfl, 10, 18, rfl, rfl, ⟨by decide, by decide, by decide⟩, c, _, rfl, rfl, .inr ⟨_, rfl, ?_⟩⟩
        have npl : l ≠ p := ne_of_none hl hp
        have hl1 : upd H p (.lst [.int 0, .int c]) l = some (.lst [.int c]) := by
          rw [upd_ne npl]
          exact hl
        obtain ⟨z, hz⟩ : ∃ z : Int, atI [V.int 0, V.int c] (if decide (10 ^ Int.toNat 18 ≤ c) = true then 1 else 0) = some (.int z) := by
          split
          · exact ⟨c, rfl⟩
          · exact ⟨0, rfl⟩
        refine ⟨p, _, _, .int z, rfl, rfl, SqL.of upd_same, hz, ?_⟩
        refine ⟨_, rfl, l, _, 0, 0, rfl, rfl, hl1, rfl, ?_⟩
        refine ⟨_, rfl, .inl ⟨rfl, _, SqL.of upd_same⟩, _, rfl, .inl ⟨c, rfl, ?_⟩⟩
        refine ⟨_, _, rfl, rfl, (by show (0 : Int) < 2147483647; decide), (by show 2 ≤ sizeLine; decide), fun p2 hp2 => ?_⟩
        have np2 : l ≠ p2 := ne_of_none upd_same hp2
        refine ⟨l, p2, _, _, rfl, rfl, (by rw [upd_ne np2]; exact upd_same), upd_same, (by show 1 + 2 ≤ sizeLine; decide), ?_⟩
        refine ⟨_, _, _, _, rfl, upd_same, fun b u n e => ?_⟩
        have e1 : upd H p (.lst [.int 0, .int c]) b = some u := by
          rw [upd_ne (ne_of_none e hp)]
          exact e
        have e2 : upd (upd H p (.lst [.int 0, .int c])) l (.lst [.int z]) b = some u := by
          rw [upd_ne n]
          exact e1
        rw [upd_ne n, upd_ne (ne_of_none e2 hp2)]
        exact e2
      · refine iteF ?_
        exact ⟨_, a, b', c, rfl, hl, But.refl l H⟩
    · rintro σ' H1 ⟨x, a, b', c, rfl, h1, bt⟩
      refine ⟨_, rfl, l, _, 0, .int a, rfl, rfl, SqL.of h1, rfl, a, 0, rfl, rfl, _, rfl, ite2 (fun ha => ?_) (fun ha => ?_)⟩
      · refine ⟨_, rfl, l, _, 0, .int a, rfl, rfl, SqL.of h1, rfl, .inl ⟨a, rfl, ?_⟩⟩
        refine ⟨_, rfl, a, b, rfl, rfl, hb0, ?_⟩
        refine ⟨_, rfl, l, _, 0, .int a, rfl, rfl, SqL.of h1, rfl, ?_⟩
        refine ⟨_, rfl, a, b, rfl, rfl, ⟨hb0, hb1⟩, ?_⟩
        refine ⟨_, rfl, l, _, 0, 0, rfl, rfl, h1, rfl, ?_⟩
        refine ⟨_, rfl, ?_⟩
        obtain ⟨d, hd, ed⟩ := mod_nat (x := a) hb0
        dsimp only
        rw [ed]
        exact q d _ _ hd (.inr ⟨_, _, _, rfl⟩) upd_same (bt.trans But.upd)
      · refine ⟨_, rfl, l, _, 2, .int c, rfl, rfl, SqL.of h1, rfl, c, 1, rfl, rfl, ?_⟩
        refine ⟨_, rfl, l, _, 2, 2, rfl, rfl, h1, rfl, ?_⟩
        refine ⟨_, rfl, l, _, 1, .int b', rfl, rfl, SqL.of upd_same, rfl, ?_⟩
        refine ⟨_, rfl, l, _, 2, .int (c + 1), rfl, rfl, SqL.of upd_same, rfl, ?_⟩
        refine ⟨7919, c + 1, rfl, rfl, .inl ⟨by decide, by decide⟩, b', _, rfl, rfl, _, _, rfl, rfl, _, _, rfl, rfl, .inr ⟨by decide, by decide⟩, .inl ⟨_, rfl, ?_⟩⟩
        refine ⟨_, _, rfl, rfl, (by show (0 : Int) < 2147483647; decide), ?_⟩
        obtain ⟨n1, hn1, en1⟩ := mod_nat (x := (b' + 7919 * (c + 1) + 1) * 48271) (b := 2147483647) (by decide)
        dsimp only
        rw [en1]
        refine ⟨_, rfl, _, rfl, n1, 1009, rfl, rfl, ⟨by decide, by decide⟩, _, _, rfl, rfl, n1, _, rfl, rfl, .inl ⟨by omega, by omega⟩, .inl ⟨_, rfl, ?_⟩⟩
        refine ⟨_, _, rfl, rfl, (by show (0 : Int) < 2147483647; decide), ?_⟩
        obtain ⟨n2, hn2, en2⟩ := mod_nat (x := (n1 : Int) * ((n1 : Int) / 1009 + 69621)) (b := 2147483647) (by decide)
        dsimp only
        rw [en2]
        refine ⟨_, rfl, _, rfl, n2, 2003, rfl, rfl, ⟨by decide, by decide⟩, _, _, rfl, rfl, n2, _, rfl, rfl, .inl ⟨by omega, by omega⟩, .inl ⟨_, rfl, ?_⟩⟩
        refine ⟨_, _, rfl, rfl, (by show (0 : Int) < 2147483399; decide), _, rfl, _, b, rfl, rfl, hb0, ?_⟩
        obtain ⟨d, hd, ed⟩ := mod_nat (x := (n2 : Int) * ((n2 : Int) / 2003 + 40692) % 2147483399) hb0
        dsimp only
        rw [ed]
        exact q d _ _ hd (.inr ⟨_, _, _, rfl⟩) upd_same (bt.trans But.upd)
end
end Tx
set_option Elab.async false
set_option linter.all false
set_option maxRecDepth 100000
set_option maxHeartbeats 4000000
/-! A constructor's call inside a try: what flies out is told at the slots of the call. -/
namespace DcE
open PySem PySem.Spec PyProof.Rows L2
section
variable {X : Cx} {CX : CXT} {k : Nat} {f C : Addr} {fd : FuncData} {ps : List Str} {sp : Sp} {E : L2.St → XK} {x : Str} {p pos : Pos} {e : Expr} {es : List Expr} {t : TA}
def tMakeS (C : Addr) (sp : Sp) (E : L2.St → XK) (t : TA) : TE := fun σ H Q => t σ H fun vs H1 => ∀ x dx, H1 x = none → H1 dx = none → dx ≠ x → sp (.ref x :: vs) (upd (upd H1 dx (.own x)) x (.ins C dx [])) (fun v H2 => v = .non ∧ Q (.ref x) H2) (E σ)
theorem pe_makeS (M : Mk X.K C f) (F : FnOk X.prog X.w X.K X.mg X.base CX k f fd ps sp) (hr : Room (k + 1) X.A) (hg : Gl X x) (hm : X.mg x = some (.ref C)) (hb : Binds X.K fd ps []) (hx : ∀ σ, PassesAt CX X σ (E σ)) (ha : PA X (e :: es) t)
    (hdb : (x == ("__debug__" : Str)) = false := by decide) (he : starEach (e :: es) X.env = (false, eval e X.env) :: starEach es X.env := by rfl) (hpl : (backTo pos (starEach es X.env)).any (·.1) = false := by rfl) :
    PE X (.Call (.Name x p) (e :: es) [] pos) (tMakeS C sp E t) := by
  constructor
  intro pins s σ H Q I h
  apply wpAny_Call_Name_kw
  apply ld_glob I hg hm _ hdb
  refine PySem.W.callWith_K (h₀ := X.base) I.ok.mod.kin M.kp ?_ he hpl
  refine thn (ha.run pos pins s σ H _ I h) ?_
  rintro us s1 ⟨vs, H1, I1, r, q⟩
  refine ⟨I1.kIn, ?_⟩
  have q1 := q (s1.heap.objs.size + 1) s1.heap.objs.size (I1.hok.fresh (by omega)) (I1.hok.fresh (Nat.le_refl _)) (Nat.ne_of_lt (Nat.lt_succ_self _))
  have J := Inv.made (C := C) I1
  have rs : Vals (V.ref (s1.heap.objs.size + 1) :: vs) (Value.ref (s1.heap.objs.size + 1) :: us) := .cons rfl r
  have hl := rs.length.symm.trans (F.len _ _ _ _ q1)
  have b := hb _ (Value.ref (s1.heap.objs.size + 1) :: us) J.kIn (by rw [List.append_nil]; exact hl)
  rw [List.append_nil] at b
  refine wpAny_call (make_map (f := f) I1.kIn M.makes M.init (beq_iff_eq.mp M.fn) (codeAny_mono (F.run _ X.stack _ _ _ _ _ _ (E σ) (hr.make C us []) (J.env0.make C us []) b rs q1) ?_))
  rintro (e | fl) s' z
  · exact hx σ pins _ _ e s' J z
  · match fl, z with
    | .ret u, z =>
      obtain ⟨v, H', I3, rv, ev, q3⟩ := J.after z
      subst ev
      exact ⟨rv, V.ref (s1.heap.objs.size + 1), H', I3, rfl, q3⟩
end
end DcE
set_option Elab.async false
set_option linter.all false
set_option maxRecDepth 100000
set_option maxHeartbeats 8000000
namespace Tx
open PySem PySem.Spec PyProof.Rows L2 Cm Ob
theorem op_mulS {X : Cx} : OpR X (binaryOp .Mult) (fun x y H Q => ∃ a n, x = .str a ∧ y = .int n ∧ MulOk a n ∧ Q (.str (Txt.mul a n)) H) := by
  intro pins s σ H x y v u Q I rx ry h
  obtain ⟨a, n, rfl, rfl, ok, q⟩ := h
  obtain ⟨t, rfl⟩ := rx
  obtain ⟨t', rfl⟩ := ry
  exact SB.mul ok fun t2 tk => ⟨.str (Txt.mul a n), H, I.tok _, ⟨_, rfl⟩, q⟩
/-! ### trees written out -/
theorem stbN : Wl.StbR (fun H v t => NdAt H v t) := fun H H' v t s h => h.mono (DKeep.same s)
/-- a tree whose dicts are all new -/
def tND (G : L2.St → Hp → Prop) (t : Nd) : TE := fun σ H Q => G σ H ∧ ∀ v H', Same H H' → NdAt (newIn H H') v t → Q v H'
theorem newIn_at {H H' : Hp} {b : Addr} {o : HO} (h : newIn H H' b = some o) : H b = none ∧ H' b = some o := by
  unfold newIn at h
  split at h
  · exact ⟨by assumption, h⟩
  · cases h
theorem newIn_mk {H H' : Hp} {b : Addr} {o : HO} (h1 : H b = none) (h2 : H' b = some o) : newIn H H' b = some o := by
  unfold newIn
  rw [h1]
  exact h2
section
variable {X : Cx} {G : L2.St → Hp → Prop} {p1 p2 p3 pos : Pos} {k1 k2 : Str} {e e1 e2 : Expr} {t t1 t2 : Nd} {j1 j2 : Nat}
theorem pe_ndE (h : PE X e (tND G t)) : PE X e (Wl.tE G (fun H v t => NdAt H v t) t) := Wl.PE.weak h fun σ H Q g => ⟨g.1, fun v H' s n => g.2 v H' s (n.mono fun b kvs z => (newIn_at z).2)⟩
theorem pe_nd0 : PE X (.Dict [] [] pos) (tND G (.dir [])) :=
  Wl.PE.weak pe_dnewK fun σ H Q g p hp => g.2 _ _ (same_new hp) (.dir (newIn_mk hp upd_same) rfl (by simp) (by decide) (by simp) (fun i kv p h => by cases h))
theorem pe_ndI {i : Int} : PE X (.Constant (.int i) j1 pos) (tND G (.fil i)) := Wl.PE.weak pe_int fun σ H Q g => g.2 _ _ (Same.refl H) (.fil i)
theorem pe_nd1 (hG : Wl.Stb G) (h1 : PE X e1 (tND G t1)) (hk : k1.length ≤ 100000) : PE X (.Dict [some (.Constant (.str k1) j1 p1)] [e1] pos) (tND G (.dir [(k1, t1)])) :=
  Wl.PE.weak (pe_disp (pps_cons pe_str h1 pps_nil) rfl rfl (by simp) (by simp)) fun σ H Q g p hp => ⟨hG _ _ _ (same_new hp) g.1, fun v1 H1 s1 r1 => by
    have hp1 := s1 _ _ (upd_same (H := H) (a := p) (o := HO.dK []))
    refine ⟨hp1, [(Sum.inr k1, v1)], rfl, by show 1 ≤ 15; decide, g.2 _ _ (same_mut hp ((same_new hp).trans s1)) ?_⟩
    have r1' : NdAt (newIn H (upd H1 p (.dK [(Sum.inr k1, v1)]))) v1 t1 := r1.mono fun b kvs z => by
      obtain ⟨z1, z2⟩ := newIn_at z
      have nb : b ≠ p := fun e => by
        rw [e, upd_same] at z1
        cases z1
      rw [upd_ne nb] at z1
      exact newIn_mk z1 (by rw [upd_ne nb]; exact z2)
    refine .dir (kvs := [(Sum.inr k1, v1)]) (newIn_mk hp upd_same) rfl (by simp) (by show 1 < 64; decide) (by intro q hq; cases (List.mem_singleton.mp hq); exact hk) ?_
    intro i kv q h h'
    match i, h, h' with
    | 0, h, h' =>
      cases h
      cases h'
      exact r1'⟩
theorem pe_nd2 (hG : Wl.Stb G) (h1 : PE X e1 (tND G t1)) (h2 : PE X e2 (tND G t2)) (hk1 : k1.length ≤ 100000) (hk2 : k2.length ≤ 100000) (ne : k1 ≠ k2) : PE X (.Dict [some (.Constant (.str k1) j1 p1), some (.Constant (.str k2) j2 p2)] [e1, e2] pos) (tND G (.dir [(k1, t1), (k2, t2)])) :=
  Wl.PE.weak (pe_disp (pps_cons pe_str h1 (pps_cons pe_str h2 pps_nil)) rfl rfl (by simp) (by simp)) fun σ H Q g p hp => ⟨hG _ _ _ (same_new hp) g.1, fun v1 H1 s1 r1 => ⟨hG _ _ _ ((same_new hp).trans s1) g.1, fun v2 H2 s2 r2 => by
    have hp1 := s1 _ _ (upd_same (H := H) (a := p) (o := HO.dK []))
    have hp2 := s2 _ _ hp1
    have em : mergeK [] [((Sum.inr k1 : Key), v1), (Sum.inr k2, v2)] = [(Sum.inr k1, v1), (Sum.inr k2, v2)] := by
      simp [mergeK, putK, ne]
    refine ⟨hp2, [(Sum.inr k1, v1), (Sum.inr k2, v2)], rfl, by show 2 ≤ 15; decide, g.2 _ _ (same_mut hp ((same_new hp).trans (s1.trans s2))) ?_⟩
    rw [em]
    have r1' : NdAt (newIn H (upd H2 p (.dK [(Sum.inr k1, v1), (Sum.inr k2, v2)]))) v1 t1 := r1.mono fun b kvs z => by
      obtain ⟨z1, z2⟩ := newIn_at z
      have nb : b ≠ p := fun e => by
        rw [e, upd_same] at z1
        cases z1
      rw [upd_ne nb] at z1
      exact newIn_mk z1 (by rw [upd_ne nb]; exact s2 _ _ z2)
    have r2' : NdAt (newIn H (upd H2 p (.dK [(Sum.inr k1, v1), (Sum.inr k2, v2)]))) v2 t2 := r2.mono fun b kvs z => by
      obtain ⟨z1, z2⟩ := newIn_at z
      have nb : b ≠ p := fun e => by
        rw [e, hp1] at z1
        cases z1
      have z0 : H b = none := by
        cases e : H b with
        | none => rfl
        | some o =>
          rw [s1 _ _ (same_new hp _ _ e)] at z1
          cases z1
      exact newIn_mk z0 (by rw [upd_ne nb]; exact z2)
    refine .dir (kvs := [(Sum.inr k1, v1), (Sum.inr k2, v2)]) (newIn_mk hp upd_same) rfl (by simp [ne]) (by show 2 < 64; decide) ?_ ?_
    · intro q hq
      simp only [List.mem_cons, List.not_mem_nil, or_false] at hq
      rcases hq with rfl | rfl
      · exact hk1
      · exact hk2
    · intro i kv q h h'
      match i, h, h' with
      | 0, h, h' =>
        cases h
        cases h'
        exact r1'
      | 1, h, h' =>
        cases h
        cases h'
        exact r2'⟩⟩
end
def trees5 : List Nd := [.dir [("a", .dir [("b", .dir []), ("c", .fil 5)]), ("d", .dir [])], .dir [("a", .dir [("a", .dir [("a", .dir [])])])], .dir [], .dir [("a", .dir []), ("b", .dir [("c", .dir [])])], .dir [("e", .dir [])]]
theorem nv_some {ks : List (Str × Nd)} (h : (nv 9 (.dir ks) 0).isSome = true) : ∃ ks' t' n, Nd.dir ks = .dir ks' ∧ nv 9 (.dir ks') 0 = some (t', n) := by
  obtain ⟨⟨t', n⟩, e⟩ := Option.isSome_iff_exists.mp h
  exact ⟨ks, t', n, rfl, e⟩
theorem sort2 {k1 k2 : Str} {t1 t2 : Nd} (h : leS k1 k2 = true) : sortK [(k1, t1), (k2, t2)] = [(k1, t1), (k2, t2)] := List.mergeSort_of_pairwise (by simp [h])
theorem nv_dir (g : Nat) (ks : List (Str × Nd)) (n : Nat) : nv (g + 1) (.dir ks) n = if 61 < n + 1 then none else if ks.all fun p => nameB p.1 then (match nvs (nv g) (sortK ks) (n + 1) with
      | some (ks', m) => some (.dir ks', m)
      | none => none) else none := rfl
theorem nv_in : nv 8 (.dir [("b", .dir []), ("c", .fil 5)]) 1 = some (.dir [("b", .dir []), ("c", .fil 5)], 4) := by
  rw [nv_dir, if_neg (by decide), if_pos (by decide +kernel), sort2 (by decide +kernel)]
  kernel_rfl
theorem trees5_ok {t : Nd} (h : t ∈ trees5) : ∃ ks t' n, t = .dir ks ∧ nv 9 (.dir ks) 0 = some (t', n) := by
  simp only [trees5, List.mem_cons, List.not_mem_nil, or_false] at h
  rcases h with rfl | rfl | rfl | rfl | rfl
  · refine nv_some ?_
    rw [nv_dir, if_neg (by decide), if_pos (by decide +kernel), sort2 (by decide +kernel), nvs_cons]
    dsimp only
    rw [nv_in]
    kernel_rfl
  · exact nv_some (by decide +kernel)
  · exact nv_some (by decide +kernel)
  · refine nv_some ?_
    rw [nv_dir, if_neg (by decide), if_pos (by decide +kernel), sort2 (by decide +kernel)]
    kernel_rfl
  · exact nv_some (by decide +kernel)
theorem scLT : FnScope ["_law_state", "_law_some"] ["_law_state"] (defScope sLTree) := ⟨rfl, rfl, rfl, by decide +kernel, rfl, by decide +kernel, by decide +kernel⟩
def StAt (l : Addr) (H : Hp) : Prop := ∃ st, H l = some (.lst st) ∧ StOk st
theorem StAt.same {l : Addr} {H H' : Hp} (h : StAt l H) (s : Same H H') : StAt l H' := by
  obtain ⟨st, a, b⟩ := h
  exact ⟨st, s _ _ a, b⟩
def spLT : Sp := fun vs H Q _ => ∃ l, vs = [.ref l] ∧ StAt l H ∧ ∀ v t H', t ∈ trees5 → NdAt H' v t → But l H H' → StAt l H' → Q v H'
section
variable {P : Program} {w : World} {K : PySem.W.Frag} {mg : Str → Option Value} {base : Heap}
theorem ok_lt {f : Addr} {fd : FuncData} {k : Nat} (F : Fun K "_law_tree" "_law_tree" sLTree f fd) (Dg : Cl P w K mg base CX0 1 "_law_digit" ["_law_state", "_law_base"] spDigit) : FnOk P w K mg base CX0 (k + 2) f fd ["_law_state"] spLT := by
  refine F.ok scLT (fun vs H Q E h => ?_) (fun cdv A outer s H vs Q E hr h => ?_)
  · obtain ⟨l, rfl, _⟩ := h
    rfl
  · obtain ⟨l, rfl, hS, q⟩ := h
    have gs : Wl.Stb (fun σ H' => σ = [some (.ref l), none] ∧ StAt l H' ∧ But l H H') := fun σ H1 H2 s h => ⟨h.1, h.2.1.same s, h.2.2.trans (Same.but l s)⟩
    have h0 : Ho (cxOf CX0 P w K mg base ["_law_state", "_law_some"] "_law_tree" (defScope sLTree) f cdv A outer s H E).nox ((defBody sLTree).getD 0 (.Pass ⟨0, 0, 0, 0⟩)) (fun σ H' => σ = [some (.ref l), none] ∧ StAt l H' ∧ But l H H') (fun σ H' => ∃ v, σ = [some (.ref l), some v] ∧ StAt l H' ∧ But l H H' ∧ Wl.LsAt (fun H v t => NdAt H v t) H' v trees5) := by
      refine Wl.ho_set (i := 1) (w := trees5) (R := Wl.LsAt (fun H v t => NdAt H v t)) scLT.nd rfl (.inl rfl) (Wl.pe_l stbN (by decide) (Wl.pa_c gs stbN (pe_ndE (pe_nd2 gs (pe_nd2 gs pe_nd0 pe_ndI (by decide +kernel) (by decide +kernel) (by decide +kernel)) pe_nd0 (by decide +kernel) (by decide +kernel) (by decide +kernel)))
        (Wl.pa_c gs stbN (pe_ndE (pe_nd1 gs (pe_nd1 gs (pe_nd1 gs pe_nd0 (by decide +kernel)) (by decide +kernel)) (by decide +kernel)))
        (Wl.pa_c gs stbN (pe_ndE pe_nd0) (Wl.pa_c gs stbN (pe_ndE (pe_nd2 gs pe_nd0 (pe_nd1 gs pe_nd0 (by decide +kernel)) (by decide +kernel) (by decide +kernel) (by decide +kernel)))
        (Wl.pa_c gs stbN (pe_ndE (pe_nd1 gs pe_nd0 (by decide +kernel))) (Wl.pa_n _ _))))))) ?_
      rintro σ H1 v H2 ⟨rfl, h1, h2⟩ sm r
      exact ⟨v, rfl, h1.same sm, h2.trans (Same.but l sm), r⟩
    have h1 : HoR (cxOf CX0 P w K mg base ["_law_state", "_law_some"] "_law_tree" (defScope sLTree) f cdv A outer s H E).nox [(defBody sLTree).getD 1 (.Pass ⟨0, 0, 0, 0⟩)] (fun σ H' => ∃ v, σ = [some (.ref l), some v] ∧ StAt l H' ∧ But l H H' ∧ Wl.LsAt (fun H v t => NdAt H v t) H' v trees5) (fun v H' => Q v H') := by
      refine ⟨_, pss_one (ps_ret (pe_ix ix_list (pv 1) (pe_cl Dg hr (by omega) (by rfl) pass0 (pa_cons (pv 0) (pa_cons pe_int pa_nil))) (fun _ _ => rfl))), ?_⟩
      rintro D σ H1 ⟨v, rfl, ⟨st, hl, ok⟩, b, p, xs, rfl, hp, pd⟩ q1
      refine ⟨_, rfl, _, rfl, l, st, 5, rfl, hl, ok, by decide, by decide, fun d st2 H2 hd ok2 h2 b2 => ?_⟩
      have npl : p ≠ l := fun e => by
        rw [e, hl] at hp
        cases hp
        cases pd with
        | cons a r =>
          rcases ok with ⟨c, e⟩ | ⟨a', b', c', e⟩ <;> (cases e; cases a)
      have hd' : d < 5 := by
        have z : (d : Int) < 5 := hd
        omega
      have hlen : xs.length = 5 := Wl.pd_len (R := fun H v t => NdAt H v t) pd
      have hx : d < xs.length := by omega
      obtain ⟨t, ht, hn⟩ := pd_at pd (List.getElem?_eq_getElem hx)
      refine ⟨p, xs, d, xs[d], rfl, rfl, SqL.of (b2 p _ npl hp), atI_nat (List.getElem?_eq_getElem hx), q1 _ _ (q _ t H2 (List.mem_of_getElem? ht) (hn.mono (DKeep.but b2 hl (by intro kvs z; cases z))) (b.trans b2) ⟨st2, h2, ok2⟩)⟩
    obtain ⟨t, ht, hq⟩ := HoR.cons h0 h1
    exact ⟨t, ht, hq _ _ _ ⟨rfl, hS, But.refl _ _⟩ fun v H' z => z⟩
end
end Tx
set_option Elab.async false
set_option linter.all false
set_option maxRecDepth 100000
set_option maxHeartbeats 4000000
/-! lambdas without parameters as values: made, kept, handed to a def that calls them -/
namespace LmB
open PySem PySem.Spec PyProof.Rows L2 LamX NdefX
/-- a lambda's words (the body beside): an NF without statements -/
abbrev LF (qual : Str) (params : Arguments) (scope : Scope) (cl : List (Str × Addr)) (c : Addr) : NF := ⟨"<lambda>", qual, params, [], scope, cl, c⟩
def LamO (f : Addr) (F : NF) (body : Expr) : HO := .ext fun h => ∃ pm ctv, h.get? f = some (PySem.W.kla_obj "<lambda>" F.qual F.params body F.scope F.cl pm F.c ctv)
theorem lamO_ne {f : Addr} {F : NF} {b : Expr} (ps : Array Value) : LamO f F b ≠ .tbl ps := fun z => by
  unfold LamO at z
  cases z
theorem lamO_at {P : Program} {w : World} {H : Hp} {h : Heap} {f : Addr} {F : NF} {b : Expr} (hok : HOk P w H h) (e : H f = some (LamO f F b)) : ∃ pm ctv, h.get? f = some (PySem.W.kla_obj "<lambda>" F.qual F.params b F.scope F.cl pm F.c ctv) := by
  obtain ⟨z, _, _⟩ := hok f _ e
  exact z
section
variable {X : Cx} {pins : List (Addr × Obj)} {σ : L2.St} {H : Hp} {s : Shared}
theorem inv_lam {F : NF} {b : Expr} {o : Obj} {t' : Nat} {pm ctv : Value} (I : Inv X pins σ H s) (ho : o = PySem.W.kla_obj "<lambda>" F.qual F.params b F.scope F.cl pm F.c ctv) :
    Inv X pins σ (upd H s.heap.objs.size (LamO s.heap.objs.size F b)) { s with heap := s.heap.push o, toks := t' } := by
  subst ho
  refine I.laid (a := s.heap.objs.size) (fun b u e => Heap.get?_push_of_some _ e) (Nat.le_refl _) ?_
  have e : (s.heap.push (PySem.W.kla_obj "<lambda>" F.qual F.params b F.scope F.cl pm F.c ctv)).get? s.heap.objs.size = some (PySem.W.kla_obj "<lambda>" F.qual F.params b F.scope F.cl pm F.c ctv) := Heap.get?_push_size _ rfl
  exact ⟨⟨pm, ctv, e⟩, ⟨_, e⟩, fun h1 h2 ⟨p, t, z⟩ st => ⟨p, t, st _ z⟩⟩
/-- the lambda is made: known from now on -/
theorem lam_makeO {T : List (Addr × Str)} {c P : Addr} {params : Arguments} {body : Expr} {scope : Scope} {pos : Pos} {E : Value → Shared → Prop} {Q : Value → Shared → Prop} (I : Inv X pins σ H s) (TB : TabB X.base X.mg c P) (hcode : X.env.code = .ref c)
    (hm : (P, X.env.qual ++ "<lambda>") ∈ T) (hu : ∀ p ∈ T, p.1 = P → p.2 = X.env.qual ++ "<lambda>") (hT : Tabs T H) (hdef : defaultsOf params X.env = ([], [])) (hfree : ∀ y ∈ scope.names, y.2 = .free → ∃ c, X.env.cells.lookup y.1 = some c)
    (h : ∀ (f c' : Addr) (H1 : Hp) (s' : Shared), Inv X pins σ H1 s' → ExtN H H1 → Tabs T H1 → H f = none → H1 f = some (LamO f (LF (X.env.qual ++ "<lambda>") params scope (cloFrom X.env.cells scope.names []) c') body) → H1 c' = some (CodeO c' (X.env.qual ++ "<lambda>")) → Q (.ref f) s') :
    wpAny (model X.prog X.w) X.A (eval (.Lambda params body scope pos) X.env) Q E s := by
  obtain ⟨ps, hP, ht, ha⟩ := hT _ hm
  refine PySem.W.kla_eval hdef ?_
  have bP : s.heap.BuiltinsAt X.mg P := TB.bm.keeps I.bk
  have hP' : s.heap.get? P = some { cls := .none, data := .fields ps } := I.hok P _ hP
  cases hc : codeAmong pos ps.toList with
  | none =>
    refine PySem.W.kla_makeFunction (mg := X.mg) (c := c) (P := P) (ps := ps) (closure_ok hfree) I.ok.glob (I.mod.glob.keeps I.bk) hcode (TB.code.keeps I.bk) hP' ht hc TB.gP bP fun c' ctv h' tk hx hge hlt hrec htb => ?_
    obtain ⟨c2, oc, vs, t, e2, hoc, hd, hv⟩ := hrec
    cases e2
    have nC : H c' = none := I.hok.fresh hge
    have I1 := inv_table (t' := tk) (more := #[rawInt pos.line, rawInt pos.col, .ref c']) (h' := h') (q := X.env.qual ++ "<lambda>") I hP (fun b o hb e => hx b o hb e) htb hge ⟨oc, vs, t, hoc, hd, hv⟩
    have hE : ExtN H (upd (upd H P (.tbl (ps ++ #[rawInt pos.line, rawInt pos.col, .ref c']))) c' (CodeO c' (X.env.qual ++ "<lambda>"))) := fun b o e n => by
      rw [upd_ne (ne_of_none e nC), upd_ne (fun z => n ps (Option.some.inj (e.symm.trans (by rw [z]; exact hP))))]
      exact e
    have eL : (ps ++ #[rawInt pos.line, rawInt pos.col, .ref c']).toList = ps.toList ++ [rawInt pos.line, rawInt pos.col, .ref c'] := by simp
    have T1 : Tabs T (upd (upd H P (.tbl (ps ++ #[rawInt pos.line, rawInt pos.col, .ref c']))) c' (CodeO c' (X.env.qual ++ "<lambda>"))) := fun p hp => by
      by_cases hb : p.1 = P
      · rw [hu p hp hb, hb]
        refine ⟨_, by rw [upd_ne (ne_of_none hP nC), upd_same], by rw [eL]; exact PySem.TriplesOk_snoc _ _ _ _ ht, fun p' cv hcv => ?_⟩
        rw [eL] at hcv
        rcases among_app _ ht hcv with z | z
        · obtain ⟨c0, e1, e2⟩ := ha p' cv z
          exact ⟨c0, e1, hE _ _ e2 codeO_ne⟩
        · exact ⟨c', z, upd_same⟩
      · obtain ⟨ps', a1, a2, a3⟩ := hT p hp
        refine ⟨ps', by rw [upd_ne (ne_of_none a1 nC), upd_ne hb]; exact a1, a2, fun p' cv hcv => ?_⟩
        obtain ⟨c0, e1, e2⟩ := a3 p' cv hcv
        exact ⟨c0, e1, hE _ _ e2 codeO_ne⟩
    have nF := I1.hok.fresh (Nat.le_refl _)
    have I2 := inv_lam (F := LF (X.env.qual ++ "<lambda>") params scope (cloFrom X.env.cells scope.names []) c') (b := body) (t' := tk) (pm := (X.mg "__name__").getD .none) (ctv := ctv) I1 rfl
    refine h h'.objs.size c' _ _ I2 (fun b o e n => ?_) (T1.ext fun b o e => ?_) (I.hok.fresh (Nat.le_trans hge (Nat.le_of_lt hlt))) upd_same ?_
    · have e1 := hE b o e n
      exact (upd_ne (ne_of_none e1 nF)).trans e1
    · exact (upd_ne (ne_of_none e nF)).trans e
    · exact (upd_ne (Nat.ne_of_lt hlt)).trans upd_same
  | some cv =>
    obtain ⟨c', e, hco⟩ := ha pos cv hc
    subst e
    refine PySem.W.kla_makeFunctionHit (mg := X.mg) (c := c) (P := P) (ps := ps) (closure_ok hfree) I.ok.glob (I.mod.glob.keeps I.bk) hcode (TB.code.keeps I.bk) hP' ht hc bP fun ctv h' tk hx hsz => ?_
    have I1 : Inv X pins σ H { s with heap := h', toks := tk } := I.kept hx
    have nF : H h'.objs.size = none := I1.hok.fresh (Nat.le_refl _)
    have I2 := inv_lam (F := LF (X.env.qual ++ "<lambda>") params scope (cloFrom X.env.cells scope.names []) c') (b := body) (t' := tk) (pm := (X.mg "__name__").getD .none) (ctv := ctv) I1 rfl
    refine h h'.objs.size c' _ _ I2 (fun b o e n => ?_) (hT.ext fun b o e => ?_) nF upd_same ?_
    · exact (upd_ne (ne_of_none e nF)).trans e
    · exact (upd_ne (ne_of_none e nF)).trans e
    · exact (upd_ne (ne_of_none hco nF)).trans hco
end
/-- a lambda of these words stands at v -/
def LamAt (mk : Addr → NF) (body : Expr) (H : Hp) (v : V) : Prop := ∃ f c', v = .ref f ∧ (mk c').c = c' ∧ H f = some (LamO f (mk c') body) ∧ H c' = some (CodeO c' (mk c').qual)
theorem LamAt.ext {mk : Addr → NF} {body : Expr} {H H' : Hp} {v : V} (h : LamAt mk body H v) (e : ExtN H H') : LamAt mk body H' v := by
  obtain ⟨f, c', h1, h0, h2, h3⟩ := h
  exact ⟨f, c', h1, h0, e _ _ h2 lamO_ne, e _ _ h3 codeO_ne⟩
def tLamO (T : List (Addr × Str)) (mk : Addr → NF) (body : Expr) : TE := fun σ H Q => Tabs T H ∧ ∀ v H1, ExtN H H1 → Tabs T H1 → LamAt mk body H1 v → Q v H1
/-- lambda: body, as a value -/
theorem pe_lam {X : Cx} {T : List (Addr × Str)} {c P : Addr} {params : Arguments} {body : Expr} {scope : Scope} {pos : Pos} (TB : TabB X.base X.mg c P) (hcode : X.env.code = .ref c) (hm : (P, X.env.qual ++ "<lambda>") ∈ T) (hu : ∀ p ∈ T, p.1 = P → p.2 = X.env.qual ++ "<lambda>") (hdef : defaultsOf params X.env = ([], [])) (L : LamS X.env.scope scope) :
    PE X (.Lambda params body scope pos) (tLamO T (LF (X.env.qual ++ "<lambda>") params scope (cloFrom X.env.cells scope.names [])) body) :=
  ⟨fun pins s σ H Q I ⟨hT, h⟩ => lam_makeO I TB hcode hm hu hT hdef (L.has I.ok) fun f c' H1 s' I1 e T1 _ hf hc => ⟨.ref f, H1, I1, rfl, h _ H1 e T1 ⟨f, c', rfl, rfl, hf, hc⟩⟩⟩
/-! ### what a lambda promises -/
/-- sp ws: ws what the captured cells hold at the call -/
abbrev LSp : Type := List (Option V) → Hp → VK → XK → Prop
structure LOk (P : Program) (w : World) (K : PySem.W.Frag) (mg : Str → Option Value) (base : Heap) (CX : CXT) (k : Nat) (f : Addr) (F : NF) (body : Expr) (fr : List Str) (sp : LSp) : Prop where
  run : ∀ (A : Around) (outer : List Env) (s : Shared) (H : Hp) (ws : List (Option V)) (Q : VK) (E : XK), Room k A → Env0 P w K mg base A outer s H → H f = some (LamO f F body) → H F.c = some (CodeO F.c F.qual) →
    CellsAt F.cl fr ws s.heap H → sp ws H Q E → codeAny (model P w) A (.call (.ref f) ⟨[], []⟩) (CR CX outer P w H s Q E) s
theorem startF_ws {fr : List Str} {ws : List (Option V)} (h : ws.length = fr.length) : startF fr [] ws = ws := by
  unfold startF
  simp [h]
theorem lok_of {CX : CXT} {P : Program} {w : World} {K : PySem.W.Frag} {mg : Str → Option Value} {base : Heap} {fr : List Str} {F : NF} {body : Expr} {f : Addr} {k : Nat} {sp : LSp} (S : NScope fr [] fr F.scope) (hb : ∀ (pm cv ctv : Value), bindArgs (PySem.W.kla_fn "<lambda>" F.qual F.params body F.scope F.cl pm cv ctv) ⟨[], []⟩ = pure [])
    (hbody : ∀ (A : Around) (outer : List Env) (s : Shared) (H : Hp) (ws : List (Option V)) (Q : VK) (E : XK), Room k (A.deeper (envF F f s.heap.objs.size)) → ws.length = fr.length → sp ws H Q E → ∃ t, PE (ncx CX P w K mg base fr F f A outer s H E) body t ∧ t ws H Q) :
    LOk P w K mg base CX (k + 1) f F body fr sp := by
  refine ⟨fun A outer s H ws Q E hr e0 hf hc C hsp => ?_⟩
  have lim : s.heap.NoLimit := e0.mod.nolimit.keeps fun b o e => (e0.bs b o e).1
  obtain ⟨pm, ctv, ho⟩ := lamO_at e0.hok hf
  refine PySem.W.kla_callFunE hr.depth ho rfl S.co S.gen rfl (codeO_at e0.hok hc) ?_
  rw [hb pm (.ref F.c) ctv]
  refine wpAny_pure (wpAny_newFunctionEnv S.nocell (fun y hy => absurd hy (by simp)) (fun h₁ hns hsb => ⟨lim.fresh _ hsb, ?_⟩) S.kind)
  show codeAny _ _ (.expr body (envF F f s.heap.objs.size)) _ _
  have kp : ∀ b o, s.heap.get? b = some o → h₁.get? b = some o := fun b o e => hsb.extBut b o (Nat.ne_of_lt (Heap.lt_size e)) (Heap.get?_push_of_some _ e)
  obtain ⟨t, ht, hq⟩ := hbody A outer s H ws Q E (hr.deeper _) C.len hsp
  have I : Inv (ncx CX P w K mg base fr F f A outer s H E) [] (startF fr [] ws) H { s with heap := h₁, toks := s.toks + ([] : List (Str × Value)).length } := inv_startN (ps := []) (us := []) S hr.hd e0 rfl .nil C hns kp
  rw [startF_ws C.len] at I
  refine PySem.W.kla_codeExpr (wpAny_mono (ht.run [] _ ws H Q I hq) (fun v s' hq => ?_) fun e s' hq => hq)
  obtain ⟨w', H', J', rv, q⟩ := hq
  exact ⟨w', H', J'.os, J'.bare, J'.base, J'.hok, rv, q⟩
/-- a(), in the def that got the lambda -/
theorem pe_act3 {Z : Cx} {CX : CXT} {f : Addr} {F : NF} {body : Expr} {fr : List Str} {ws : List (Option V)} {sp : LSp} {k i : Nat} {a : Str} {E : L2.St → XK} {p1 p2 : Pos} (L : LOk Z.prog Z.w Z.K Z.mg Z.base CX k f F body fr sp) (C : CellsAt F.cl fr ws Z.s_0.heap Z.H_0) (nf : ∀ y c, F.cl.lookup y = some c → c ∉ Z.fs) (nx : ∀ y c, F.cl.lookup y = some c → c ∉ Z.ex) (hr : Room k Z.A) (hx : ∀ σ, PassesAt CX Z σ (E σ)) (hN : Z.N[i]? = some a) (hv : Vis Z.env.scope a) (hd : (a == ("__debug__" : Str)) = false := by decide) (hcd : (a == ("__classdict__" : Str)) = false := by decide) :
    PE Z (.Call (.Name a p1) [] [] p2) (fun σ H Q => σ[i]? = some (some (.ref f)) ∧ H f = some (LamO f F body) ∧ H F.c = some (CodeO F.c F.qual) ∧ sp ws H Q (E σ)) := by
  refine ⟨fun pins s σ H Q I h => ?_⟩
  obtain ⟨hs, hf, hc, q⟩ := h
  refine wpAny_Call_Name_kw (thn ((pe_var (pos := p1) (i := i) hN hv hd hcd).run pins s σ H (fun v H1 => v = .ref f ∧ H1 = H) I ⟨.ref f, hs, rfl, rfl⟩) fun u s1 ⟨v, H1, I1, r1, q1⟩ => ?_)
  obtain ⟨ev, eH⟩ := q1
  subst ev
  rw [eH] at I1
  obtain rfl : u = Value.ref f := r1
  obtain ⟨pm, ctv, ho⟩ := lamO_at I1.hok hf
  refine PySem.W.callWith_F0 (first := []) ⟨_, _, _, _, ho⟩ ?_
  show wpAny _ _ (call (.ref f) []) _ _ _
  refine wpAny_call (codeAny_mono (L.run Z.A Z.stack s1 H ws Q (E σ) hr I1.env0 hf hc (C.later nf nx I1) q) fun r s' hq => ?_)
  cases r with
  | error e => exact hx σ pins H s1 e s' I1 hq
  | ok fl =>
    cases fl with
    | ret u => exact I1.after hq
    | next => exact False.elim hq
    | brk => exact False.elim hq
    | cont => exact False.elim hq
/-! ### a def that gets a lambda -/
/-- what a def makes of the lambda that it gets: TT, of the lambda's promise -/
abbrev TTp : Type := (Hp → VK → XK → Prop) → Hp → VK → Prop
structure GOk (P : Program) (w : World) (K : PySem.W.Frag) (mg : Str → Option Value) (base : Heap) (k j : Nat) (x : Str) (TT : TTp) : Prop where
  ex : ∃ g : Addr, mg x = some (.ref g) ∧ PySem.W.keepIn K (.ref g) = true ∧ ∀ (A : Around) (outer : List Env) (s : Shared) (H : Hp) (f : Addr) (F : NF) (body : Expr) (fr : List Str) (ws : List (Option V)) (sp : LSp) (Q : VK) (E : XK), Room j A → Env0 P w K mg base A outer s H → H f = some (LamO f F body) → H F.c = some (CodeO F.c F.qual) →
    CellsAt F.cl fr ws s.heap H → (∀ y c, F.cl.lookup y = some c → c ∉ frs outer) → LOk P w K mg base (L2.CX P w) k f F body fr sp → TT (sp ws) H Q → codeAny (model P w) A (.call (.ref g) ⟨[.ref f], []⟩) (CR CX0 outer P w H s Q E) s
/-- the cells at every state of a context -/
def CellC (Y : Cx) (cl : List (Str × Addr)) (fr : List Str) (ws : L2.St → List (Option V)) : Prop := ∀ pins σ H s, Inv Y pins σ H s → CellsAt cl fr (ws σ) s.heap H ∧ ∀ y c, cl.lookup y = some c → c ∉ frs Y.stack
theorem cellC_own {X : Cx} {cl : List (Str × Addr)} {fr : List Str} {js : List Nat} (cp : X.Ok → Caps X cl fr js) (hfn : ∀ y, X.fn y = true) : CellC X cl fr (fun σ => js.map (slotAt σ)) := fun pins σ H s I => by
  refine ⟨cells_of I (cp I.ok), fun y c e hb => ?_⟩
  have ec := (cp I.ok).sub y c e
  rcases List.mem_cons.mp (I.stkSub c hb) with z | z
  · exact I.cne y c ec z
  · obtain ⟨_, o, ho, _⟩ := I.ok.funs.mem z
    exact absurd (Nat.lt_of_lt_of_le (Heap.lt_size ho) (I.ok.cab y c (hfn y) ec)) (Nat.lt_irrefl _)
theorem cellC_blk {X : Cx} {cl : List (Str × Addr)} {fr : List Str} {js : List Nat} {pins : List (Addr × Obj)} {σ : L2.St} {H : Hp} {s : Shared} {scope : Scope} {ce : Env} {fp : List Addr} (cp : X.Ok → Caps X cl fr js) (hfn : ∀ y, X.fn y = true) (I : Inv X pins σ H s) (hfp : ∀ b ∈ fp, ∀ x c, X.env.cells.lookup x = some c → c ≠ b) :
    CellC (X.blk s H scope ce fp) cl fr (fun _ => js.map (slotAt σ)) := fun pins' σ' H' s' I' => by
  obtain ⟨C, hn⟩ := cellC_own cp hfn pins σ H s I
  refine ⟨CellsAt.later (X := X.blk s H scope ce fp) C hn (fun y c e hb => ?_) I', hn⟩
  exact hfp c hb y c ((cp I.ok).sub y c e) rfl
/-- x(e), e a lambda of one of the kinds ls -/
structure LKind where
  nf : Addr → NF
  body : Expr
  sp : LSp
def tGive (cl : List (Str × Addr)) (ls : List LKind) (ws : L2.St → List (Option V)) (TT : TTp) (te : TE) : TE := fun σ H Q => te σ H fun v0 H1 => ∃ v, [v0] = [v] ∧ ∃ l ∈ ls, (∀ c, (l.nf c).cl = cl) ∧ LamAt l.nf l.body H1 v ∧ TT (l.sp (ws σ)) H1 Q
theorem pe_give {Y : Cx} {cl : List (Str × Addr)} {fr : List Str} {ls : List LKind} {ws : L2.St → List (Option V)} {TT : TTp} {x : Str} {k j : Nat} {te : TE} {ea : Expr} {p pos : Pos} (G : GOk Y.prog Y.w Y.K Y.mg Y.base k j x TT) (hg : Gl Y x) (C : CellC Y cl fr ws) (hr : Room j Y.A) (L : ∀ l ∈ ls, ∀ f c, LOk Y.prog Y.w Y.K Y.mg Y.base (L2.CX Y.prog Y.w) k f (l.nf c) l.body fr l.sp) (ha : PE Y ea te)
    (hdb : (x == ("__debug__" : Str)) = false := by decide) (he : starEach [ea] Y.env = (false, eval ea Y.env) :: starEach [] Y.env := by rfl) : PE Y (.Call (.Name x p) [ea] [] pos) (tGive cl ls ws TT te) := by
  refine ⟨fun pins s σ H Q I h => ?_⟩
  obtain ⟨g, hm, hk, run⟩ := G.ex
  refine wpAny_Call_Name_kw (ld_glob I hg hm ?_ hdb)
  refine PySem.W.callWith_K (h₀ := Y.base) I.ok.mod.kin hk ?_ he (by rfl)
  refine thn ((pa_cons (hs := he) ha pa_nil).run pos pins s σ H (fun vs H1 => ∃ v, vs = [v] ∧ ∃ l ∈ ls, (∀ c, (l.nf c).cl = cl) ∧ LamAt l.nf l.body H1 v ∧ TT (l.sp (ws σ)) H1 Q) I h) fun us s2 ⟨vs, H2, I2, r, v, ev, l, hl, hcl, ⟨f, c', e1, e0, hf, hc⟩, q2⟩ => ⟨I2.kIn, ?_⟩
  subst ev
  subst e1
  obtain ⟨u, us', rfl, ru, r'⟩ : ∃ u us', us = u :: us' ∧ RelV (.ref f) u ∧ Vals [] us' := by
    cases r with
    | cons a b => exact ⟨_, _, rfl, a, b⟩
  cases r'
  obtain rfl : u = Value.ref f := ru
  obtain ⟨CA, nf⟩ := C pins σ H2 s2 I2
  have hc2 : H2 (l.nf c').c = some (CodeO (l.nf c').c (l.nf c').qual) := by rw [e0]; exact hc
  refine wpAny_call (codeAny_mono (run Y.A Y.stack s2 H2 f (l.nf c') l.body fr (ws σ) l.sp Q (fun _ _ _ => False) hr I2.env0 hf hc2 (by rw [hcl c']; exact CA) (by rw [hcl c']; exact nf) (L l hl f c') q2) fun r s' hq => ?_)
  cases r with
  | error e => exact (show False from hq).elim
  | ok fl =>
    cases fl with
    | ret u => exact I2.after hq
    | next => exact False.elim hq
    | brk => exact False.elim hq
    | cont => exact False.elim hq
end LmB
namespace LmB
open PySem PySem.Spec PyProof.Rows L2 LamX NdefX
section
variable {X : Cx}
/-- a list comprehension whose element leans on the def's own cells: its rule is asked where the def's state holds -/
theorem lc_coreI {pins : List (Addr × Obj)} {s : Shared} {σ : L2.St} {H : Hp} {Q : VK} {elt tg iter : Expr} {ifs : List Expr} {scope : Scope} {own : List (Str × Nat)} {pos pos' : Pos} {wi : TI} {g : TG} {tt : TT} {te : TE} {use : Option (Value → Sem Unit)} {Qf : Value → Shared → Prop}
    (hc : X.calm = true) (hN : X.N.Nodup) (I : Inv X pins σ H s) (hi : PI X tg iter wi) (ok : BlkOk X.N X.env.scope scope own)
    (hg : ∀ (s : Shared) (H : Hp) (C : Addr) (cl : List (Str × Addr)) (fp : List Addr), PG (X.blk s H scope (compEnvC scope cl C X.env) fp) tg g) (ht : ∀ (s : Shared) (H : Hp) (C : Addr) (cl : List (Str × Addr)) (fp : List Addr), PTs (X.blk s H scope (compEnvC scope cl C X.env) fp) ifs tt)
    (he : ∀ (s : Shared) (H : Hp) (C : Addr) (cl : List (Str × Addr)) (fp : List Addr), Inv X pins σ H s → (∀ b ∈ fp, ∀ x c, X.env.cells.lookup x = some c → c ≠ b) → PE (X.blk s H scope (compEnvC scope cl C X.env) fp) elt te) (hs : ∀ x, foldedSetIterable iter X.env x = pure x)
    (h : tLc wi g tt te (own.map (·.2)) σ H Q)
    (hRR : ∀ D C s' m H', Inv X pins σ H' s' → Q (.ref D) H' → s'.heap.Ns C m → FpOk X pins H' C → compPost (model X.prog X.w) X.A X.xe use Qf (.ref D) C (.ok .next) s') :
    wpAny (model X.prog X.w) X.A (comprehension (.ListComp elt [⟨tg, iter, ifs, 0⟩] scope pos) scope X.env pos' (newList []) false (eval iter X.env) use) Qf X.xe s := by
  have hfree : ∀ y ∈ scope.names, y.2 = .free → ∃ c, X.env.cells.lookup y.1 = some c := fun y hy e => (ok.free y hy e).elim (fun k => I.ok.has _ (.inl k)) fun k => I.ok.has _ (.inr k)
  refine wpAny_comprehension_free (use := use) rfl hs (closure_ok hfree) ok.kind (fun y hy e => by rw [ok.uniq y hy, e])
    (thn (hi.run pins s σ H _ I h) fun xv s1 hx => thn hx fun itv s2 h2 => ?_)
  obtain ⟨it, fp, tn, J, H2, e, I2, T, st2, f2, q⟩ := h2
  subst e
  refine wpAny_newObj_type (newEnv_comp ?_) (by show 0 ≤ sizeLine; decide)
  generalize hD : s2.heap.objs.size = D
  have hDn : H2 D = none := I2.hok.fresh (Nat.le_of_eq hD)
  obtain ⟨W, ⟨m0, w0⟩, turn⟩ := q D hDn
  generalize hs3 : ({ s2 with heap := s2.heap.push { cls := .type "list", data := .seq ([] : List Value).toArray } } : Shared) = s3
  have I3 : Inv X pins σ (upd H2 D (.lst [])) s3 := by
    rw [← hs3]
    refine I2.laid (t' := s2.toks) (fun b o e => Heap.get?_push_of_some _ e) (Nat.le_of_eq hD) ⟨Nat.zero_le _, [], 0, .nil, ?_⟩
    rw [← hD]
    exact Heap.get?_push_size _ rfl
  have h3 : s3.heap = s2.heap.push { cls := .type "list", data := .seq ([] : List Value).toArray } := by rw [← hs3]
  have sz : ∀ b ∈ fp, b < s2.heap.objs.size := fun b hb => by
    obtain ⟨o, e, _⟩ := T.obj _ _ st2 b hb
    exact Heap.lt_size e
  have f3 : ∀ b ∈ fp, FpOk X pins (upd H2 D (.lst [])) b ∧ b < s3.heap.objs.size := fun b hb => by
    have hlt := sz b hb
    refine ⟨⟨?_, (f2 b hb).2⟩, by rw [h3, Heap.size_push]; exact Nat.lt_succ_of_lt hlt⟩
    rw [upd_ne (by rw [← hD]; exact Nat.ne_of_lt hlt)]
    exact (f2 b hb).1
  have st3 : tn 0 s3.heap := T.keep _ _ _ st2 fun b _ o e => by rw [h3]; exact Heap.get?_push_of_some _ e
  have I4 := block_start I3 ok hN f3
  have pg := hg s3 (upd H2 D (.lst [])) s3.heap.objs.size (cellsFrom (s3.heap.objs.size + 1) scope.names (cloFrom X.env.cells scope.names [])) fp
  have pt := ht s3 (upd H2 D (.lst [])) s3.heap.objs.size (cellsFrom (s3.heap.objs.size + 1) scope.names (cloFrom X.env.cells scope.names [])) fp
  have pe := he s3 (upd H2 D (.lst [])) s3.heap.objs.size (cellsFrom (s3.heap.objs.size + 1) scope.names (cloFrom X.env.cells scope.names [])) fp I3 fun b hb x c ec => (f3 b hb).1.2.2.2.2.1 x c ec
  show codeAny _ _ (.compStart (.ListComp elt [⟨tg, iter, ifs, 0⟩] scope pos) 0 (.ref it) (.ref D) (compEnvC scope (cellsFrom (s3.heap.objs.size + 1) scope.names (cloFrom X.env.cells scope.names [])) s3.heap.objs.size X.env)) (compPost (model X.prog X.w) X.A X.xe use Qf (.ref D) s3.heap.objs.size) { s3 with heap := pushCells (s3.heap.push { cls := .type "dict", data := .dict #[] }) scope.names }
  have nfp : ∀ b ∈ fp, (upd H2 D (.lst [])) b = none := fun b hb => (f3 b hb).1.1
  generalize hce : compEnvC scope (cellsFrom (s3.heap.objs.size + 1) scope.names (cloFrom X.env.cells scope.names [])) s3.heap.objs.size X.env = ce at I4 pg pt pe ⊢
  have cL : ce.locals = s3.heap.objs.size := by subst hce; rfl
  generalize hH3 : upd H2 D (.lst []) = H3 at I3 I4 pg pt pe w0 nfp f3
  generalize hs4 : ({ s3 with heap := pushCells (s3.heap.push { cls := .type "dict", data := .dict #[] }) scope.names } : Shared) = s4 at I4 ⊢
  have st4 : tn 0 s4.heap := T.keep _ _ _ st3 fun b _ o e => by rw [← hs4]; exact pushCells_keeps _ _ _ _ (Heap.get?_push_of_some _ e)
  have stat : ∀ {σ' : L2.St} {H' : Hp} {s' : Shared}, Inv (X.blk s3 H3 scope ce fp) [] σ' H' s' → (∀ b ∈ fp, H' b = none) → ∀ b ∈ fp, FpOk (X.blk s3 H3 scope ce fp) [] H' b := fun {σ' H' s'} I' hn b hb =>
    ⟨hn b hb, (I'.ok.exf b hb).1, I'.ok.exfs b hb, .inl hb, fun x c e => (I'.ok.exf b hb).2 x c e, fun p hp => absurd (show p ∈ ([] : List (Addr × Obj)) ++ [] from hp) (by simp)⟩
  have loop : codeAny (model X.prog X.w) X.A (.compLoop (.ListComp elt [⟨tg, iter, ifs, 0⟩] scope pos) 0 (.ref it) (.ref D) ce) (compPost (model X.prog X.w) X.A X.xe use Qf (.ref D) s3.heap.objs.size) s4 := by
    refine compLoop_any (fun n s' => ∃ i H', Inv (X.blk s3 H3 scope ce fp) [] (wipe σ (own.map (·.2))) H' s' ∧ tn i s'.heap ∧ (∀ b ∈ fp, H' b = none) ∧ W i n H') ?_ m0 ⟨0, H3, I4, st4, nfp, w0⟩
    rintro n s5 ⟨i, H5, I5, st5, n5, w5⟩
    rcases turn i n H5 w5 with ⟨stop, qq⟩ | ⟨go, Nx, hNx, step⟩
    · have td := T.done (X.blk s3 H3 scope ce fp) rfl rfl rfl hc i [] s5 _ H5 (fun _ _ => False) I5 (stat I5 n5) st5 stop
      refine thnF td fun r s6 ⟨hr, I6⟩ => ?_
      subst hr
      have I7 : Inv X pins σ H5 s6 := I3.call' (ch := fp) I6.os I6.base I6.hok I6.bare fun b hb => ⟨(f3 b hb).1.2.2.2.1, (f3 b hb).1.2.1, (f3 b hb).1.2.2.2.2.1, (f3 b hb).1.2.2.2.2.2⟩
      have nC : H5 s3.heap.objs.size = none := by
        have z : H5 ce.locals = none := I6.free
        rw [cL] at z
        exact z
      obtain ⟨m, hn, _⟩ := I6.loc
      have hn : s6.heap.Ns ce.locals m := hn
      rw [cL] at hn
      exact hRR D s3.heap.objs.size s6 m H5 I7 qq hn (I3.fpOk (Nat.le_refl _) nC)
    · have ti := T.item (X.blk s3 H3 scope ce fp) rfl rfl rfl hc i [] s5 _ H5 (fun _ _ => False) I5 (stat I5 n5) st5 go
      refine thnF ti fun r s6 ⟨u, hr, h6⟩ => ?_
      subst hr
      refine thnF h6 fun _ s7 ⟨x, H7, I7, r7, y7, st7, n7⟩ => ?_
      have I7' := I7.pinned (stat I7 n7) (T.obj _ _ st7)
      refine thnF (pg.run _ s7 _ H7 x u _ I7' r7 (step x H7 y7)) fun _ s8 ⟨σ8, H8, I8, hw8, q8⟩ => ?_
      refine thnF (pt.run _ s8 σ8 H8 _ I8 q8) fun b s9 ⟨H9, I9, q9⟩ => ?_
      have fin : ∀ {s' : Shared} {H' : Hp}, Inv (X.blk s3 H3 scope ce fp) ([] ++ pinsAt fp s7.heap) σ8 H' s' → Nx H' → ∃ m, m < n ∧ ∃ i H', Inv (X.blk s3 H3 scope ce fp) [] (wipe σ (own.map (·.2))) H' s' ∧ tn i s'.heap ∧ (∀ b ∈ fp, H' b = none) ∧ W i m H' := fun {s' H'} I' nx => by
        obtain ⟨m', hm, w'⟩ := hNx H' nx
        have pin' : ∀ b ∈ fp, ∀ o, s7.heap.get? b = some o → s'.heap.get? b = some o ∧ H' b = none := fun b hb o e =>
          let z := I'.pin (b, o) (List.mem_append_right _ (List.mem_append_right _ (mem_pinsAt hb e)))
          ⟨z.1, z.2.1⟩
        have hl : (wipe σ (own.map (·.2))).length = σ8.length := by rw [← hw8, wipe_length]
        refine ⟨m', hm, i + 1, H', (I'.unpinned (pins := [])).weak hl (fun j v e => ?_), T.keep _ _ _ st7 fun b hb o e => (pin' b hb o e).1, fun b hb => ?_, w'⟩
        · rw [← hw8] at e
          exact (wipe_some e).1
        · obtain ⟨o, e, _⟩ := T.obj _ _ st7 b hb
          exact (pin' b hb o e).2
      cases b with
      | false =>
        simp only [Bool.false_eq_true, if_false] at q9 ⊢
        exact fin I9 q9
      | true =>
        simp only [if_true] at q9 ⊢
        refine thnF (pe.run _ s9 σ8 H9 _ I9 q9) fun z s10 ⟨yv, H10, I10, r10, acc, hD10, hz10, nx⟩ => ?_
        exact app_ok (X := X.blk s3 H3 scope ce fp) I10 hD10 hz10 r10 fun s11 I11 => fin I11 nx
  exact codeAny_compStart_list loop (T.self X.A 0 _ _ _ st4 loop)
theorem pe_lcI {elt tg iter : Expr} {ifs : List Expr} {scope : Scope} {own : List (Str × Nat)} {pos : Pos} {wi : TI} {g : TG} {tt : TT} {te : L2.St → TE} (hc : X.calm = true) (hN : X.N.Nodup) (hi : PI X tg iter wi) (ok : BlkOk X.N X.env.scope scope own)
    (hg : ∀ (s : Shared) (H : Hp) (C : Addr) (cl : List (Str × Addr)) (fp : List Addr), PG (X.blk s H scope (compEnvC scope cl C X.env) fp) tg g) (ht : ∀ (s : Shared) (H : Hp) (C : Addr) (cl : List (Str × Addr)) (fp : List Addr), PTs (X.blk s H scope (compEnvC scope cl C X.env) fp) ifs tt)
    (he : ∀ (σ : L2.St) (pins : List (Addr × Obj)) (s : Shared) (H : Hp) (C : Addr) (cl : List (Str × Addr)) (fp : List Addr), Inv X pins σ H s → (∀ b ∈ fp, ∀ x c, X.env.cells.lookup x = some c → c ≠ b) → PE (X.blk s H scope (compEnvC scope cl C X.env) fp) elt (te σ)) (hs : ∀ x, foldedSetIterable iter X.env x = pure x := by intro _; rfl) :
    PE X (.ListComp elt [⟨tg, iter, ifs, 0⟩] scope pos) (fun σ H Q => tLc wi g tt (te σ) (own.map (·.2)) σ H Q) := by
  refine ⟨fun pins s σ H Q I h => ?_⟩
  rw [eval_ListComp]
  refine lc_coreI hc hN I hi ok hg ht (he σ pins) hs h fun D C s' m H' I' q hn f => ⟨m, hn, fun h'' sb => ?_⟩
  obtain ⟨f0, f1, f2, f3, f4, f5⟩ := f
  exact ⟨.ref D, H', I'.turned (t' := s'.toks) (fun b o hb e => (sb.2 b hb).trans e) f0 f1 f3 f4 f5, rfl, q⟩
end
end LmB
set_option Elab.async false
set_option linter.all false
set_option maxRecDepth 100000
set_option maxHeartbeats 8000000
namespace Tx
open PySem PySem.Spec PyProof.Rows L2 Cm Ob LmB NdefX LamX
def nm4 : Fin 4 → Str | 0 => "NoTree" | 1 => "NoNumber" | 2 => "NoSpace" | 3 => "NoMount"
def wd4 : Fin 4 → Str | 0 => "tree" | 1 => "number" | 2 => "space" | 3 => "mount"
/-- the four errors, as they are caught and asked -/
structure E4 (K : PySem.W.Frag) (mg : Str → Option Value) (CMo : Addr) (C : Fin 4 → Addr) : Prop where
  gM : mg "MountError" = some (.ref CMo)
  g : ∀ i, mg (nm4 i) = some (.ref (C i))
  x : ∀ i, ExcC K (C i)
  m : ∀ i, PySem.W.exmOne K (.ref (C i)) (.ref CMo) = some true
  k : ∀ i j, PySem.W.kitOne K (.ref (C i)) (.ref (C j)) = some (decide (i = j))
abbrev nWd : List Str := ["_law_ask", "_law_found", "e"]
theorem scWd : FnScope nWd ["_law_ask"] (defScope sWord) := ⟨rfl, rfl, rfl, by decide +kernel, rfl, by decide +kernel, by decide +kernel⟩
def TTw (C : Fin 4 → Addr) : TTp := fun sp H Q => ∀ (Q2 : VK) (E2 : XK), (∀ v H', Q (.str "told") H' → Q2 v H') → (∀ i H', Q (.str (wd4 i)) H' → E2 (.ref (C i)) none H') → sp H Q2 E2
/-- word * int(isinstance(e, nm)), e the handled exception in slot i -/
def tWordI (K : PySem.W.Frag) (i : Nat) (a C : Addr) (cls : Value) (d : Option Addr) (word : Str) : TE := fun σ H Q => ∃ D b, cls = .ref D ∧ d = none ∧ ExcC K D ∧ PySem.W.kitOne K (.ref D) (.ref C) = some b ∧ σ[i]? = some (some (.ref a)) ∧ Q (.str (if b then word else Str.empty)) H
theorem pe_wordI {X : Cx} {a C : Addr} {oe : Obj} {cls : Value} {d : Option Addr} {pn : List (Addr × Obj)} {nm word : Str} {p1 p2 p3 p4 p5 p6 p7 pos : Pos} {i j : Nat} (hz : Zc cls d oe) (hf : ∃ vs, oe.data = .fields vs) (hv : PE (X.suite a ((a, oe) :: pn)) (.Name "e" p4) (tVar i)) (gI : Gl (X.suite a ((a, oe) :: pn)) "int") (gS : Gl (X.suite a ((a, oe) :: pn)) "isinstance") (gC : Gl (X.suite a ((a, oe) :: pn)) nm) (mI : X.mg "int" = none) (mS : X.mg "isinstance" = none) (mC : X.mg nm = some (.ref C)) (hw : word.length ≤ 100) (hd : (nm == ("__debug__" : Str)) = false := by decide) :
    PE (X.suite a ((a, oe) :: pn)) (.BinOp (.Constant (.str word) j p1) .Mult (.Call (.Name "int" p2) [.Call (.Name "isinstance" p3) [.Name "e" p4, .Name nm p5] [] p6] [] p7) pos) (tWordI X.K i a C cls d word) := by
  constructor
  intro pins s σ H Q I h
  obtain ⟨D, b, rfl, rfl, xc, k, ei, q⟩ := h
  refine (pe_op op_mulS pe_str (pe_callTy call_int1 gI mI (by decide +kernel) (pa_cons (pe_callB (call_isE xc hz hf) gS mS PyProof.Rows.boot_isinstance (pa_cons hv (pa_cons (pe_glob (v := .ref C) gC mC rfl hd) pa_nil))) pa_nil))).run pins s σ H Q I ?_
  refine ⟨_, ei, .ref C, .ref C, b, rfl, fun u r => r, k, .inr ⟨b, rfl, word, _, rfl, rfl, ?_, ?_⟩⟩
  · cases b
    · exact mulOk_of 100 1 hw (by decide) (by decide) (by decide) (by decide)
    · exact mulOk_of 100 1 hw (by decide) (by decide) (by decide) (by decide)
  · cases b
    · exact q
    · exact q
section
variable {P : Program} {w : World} {K : PySem.W.Frag} {mg : Str → Option Value} {base : Heap} {CMo : Addr} {C : Fin 4 → Addr}
theorem gok_word {g : Addr} {fd : FuncData} {k : Nat} (F : Fun K "_law_word" "_law_word" sWord g fd) (b : Binds K fd ["_law_ask"] []) (hm : mg "_law_word" = some (.ref g)) (B' : Bi mg) (e : E4 K mg CMo C) : GOk P w K mg base k (k + 1) "_law_word" (TTw C) := by
  refine ⟨g, hm, F.kp, fun A outer s H f Fn body fr ws sp Q E hr e0 hf hc CA nf L tt => ?_⟩
  obtain ⟨oc, od, kV, dc, pm, an, cd, ct, sl, e12, lk, hcd⟩ := id F.ex
  subst e12
  have KX : K.In s.heap := e0.mod.kin.keeps fun b o e => (e0.bs b o e).1
  refine run_ofS (N := nWd) (ps := ["_law_ask"]) (us := [.ref f]) (vs := [.ref f]) lk hcd scWd hr e0 (b s [.ref f] KX rfl) (.cons rfl .nil) rfl fun hr' => ?_
  have z10 : ∀ n : Nat, n ≤ 1000 → n ≤ sizeLine := fun n h => Nat.le_of_lt (small1000 h)
  refine ⟨_, PSs.nox (X := cxOf CX0 P w K mg base nWd "_law_word" (defScope sWord) g cd A outer s H E) (pss_cons (ps_set (i := 1) scWd.nd rfl (.inl rfl) pe_str) (pss_cons
      (ps_try_as (i := 2) rfl rfl scWd.nd rfl rfl ⟨rfl, by decide, .inl e.gM⟩ L2.takes0 (fun W pn xe tk _ => pss_one (ps_expr (pe_act3 (i := 0) (E := WE W) L CA nf (fun _ _ _ => by simp [cxOf]) hr' (fun σ => passAt tk σ) rfl (.inl rfl))))
        (fun a oe cls d pn hz hf => pss_cons (ps_set (i := 1) scWd.nd rfl (.inl rfl) (pe_op op_add_str (pe_wordI (i := 2) hz hf (pv 2) (by rfl) (by rfl) (by rfl) B'.int B'.isin (e.g 0) (by decide +kernel)) (pe_wordI (i := 2) hz hf (pv 2) (by rfl) (by rfl) (by rfl) B'.int B'.isin (e.g 1) (by decide +kernel))))
          (pss_one (ps_set (i := 1) scWd.nd rfl (.inl rfl) (pe_op op_add_str (pe_op op_add_str (pv 1) (pe_wordI (i := 2) hz hf (pv 2) (by rfl) (by rfl) (by rfl) B'.int B'.isin (e.g 2) (by decide +kernel))) (pe_wordI (i := 2) hz hf (pv 2) (by rfl) (by rfl) (by rfl) B'.int B'.isin (e.g 3) (by decide +kernel)))))))
      (pss_one (ps_ret (pv 1))))), ?_⟩
  refine ⟨rfl, hf, hc, tt _ _ (fun v H' h => ⟨_, rfl, h⟩) (fun i H' h => ?_)⟩
  refine ⟨true, e.m i, fun _ a1 ha1 => ?_, fun z => Bool.noConfusion z⟩
  match i, h with
  | 0, h => exact ⟨C 0, true, rfl, rfl, e.x 0, (e.k 0 0).trans (congrArg some (by decide)), rfl, C 0, false, rfl, rfl, e.x 0, (e.k 0 1).trans (congrArg some (by decide)), rfl, _, _, rfl, rfl, z10 _ (by decide +kernel), _, rfl, C 0, false, rfl, rfl, e.x 0, (e.k 0 2).trans (congrArg some (by decide)), rfl, _, _, rfl, rfl, z10 _ (by decide +kernel), C 0, false, rfl, rfl, e.x 0, (e.k 0 3).trans (congrArg some (by decide)), rfl, _, _, rfl, rfl, z10 _ (by decide +kernel), _, rfl, h⟩
  | 1, h => exact ⟨C 1, false, rfl, rfl, e.x 1, (e.k 1 0).trans (congrArg some (by decide)), rfl, C 1, true, rfl, rfl, e.x 1, (e.k 1 1).trans (congrArg some (by decide)), rfl, _, _, rfl, rfl, z10 _ (by decide +kernel), _, rfl, C 1, false, rfl, rfl, e.x 1, (e.k 1 2).trans (congrArg some (by decide)), rfl, _, _, rfl, rfl, z10 _ (by decide +kernel), C 1, false, rfl, rfl, e.x 1, (e.k 1 3).trans (congrArg some (by decide)), rfl, _, _, rfl, rfl, z10 _ (by decide +kernel), _, rfl, h⟩
  | 2, h => exact ⟨C 2, false, rfl, rfl, e.x 2, (e.k 2 0).trans (congrArg some (by decide)), rfl, C 2, false, rfl, rfl, e.x 2, (e.k 2 1).trans (congrArg some (by decide)), rfl, _, _, rfl, rfl, z10 _ (by decide +kernel), _, rfl, C 2, true, rfl, rfl, e.x 2, (e.k 2 2).trans (congrArg some (by decide)), rfl, _, _, rfl, rfl, z10 _ (by decide +kernel), C 2, false, rfl, rfl, e.x 2, (e.k 2 3).trans (congrArg some (by decide)), rfl, _, _, rfl, rfl, z10 _ (by decide +kernel), _, rfl, h⟩
  | 3, h => exact ⟨C 3, false, rfl, rfl, e.x 3, (e.k 3 0).trans (congrArg some (by decide)), rfl, C 3, false, rfl, rfl, e.x 3, (e.k 3 1).trans (congrArg some (by decide)), rfl, _, _, rfl, rfl, z10 _ (by decide +kernel), _, rfl, C 3, false, rfl, rfl, e.x 3, (e.k 3 2).trans (congrArg some (by decide)), rfl, _, _, rfl, rfl, z10 _ (by decide +kernel), C 3, true, rfl, rfl, e.x 3, (e.k 3 3).trans (congrArg some (by decide)), rfl, _, _, rfl, rfl, z10 _ (by decide +kernel), _, rfl, h⟩
end
end Tx
set_option Elab.async false
set_option linter.all false
set_option maxRecDepth 100000
set_option maxHeartbeats 8000000
namespace Tx
open PySem PySem.Spec PyProof.Rows L2 Cm Ob LmB NdefX LamX
/-! ### what stays where lambdas are made -/
/-- nothing but a table stands there -/
def Fsh (H0 : Hp) (l : Addr) : Prop := ∀ o, H0 l = some o → ∃ ps, o = .tbl ps
theorem fsh_of {H0 H : Hp} {l : Addr} (e : ExtN H0 H) (h : H l = none) : Fsh H0 l := fun o ho => by
  by_cases z : ∃ ps, o = .tbl ps
  · exact z
  · have := e l o ho fun ps q => z ⟨ps, q⟩
    rw [h] at this
    cases this
theorem extN_upd {H0 H : Hp} {l : Addr} {o : HO} (e : ExtN H0 H) (f : Fsh H0 l) : ExtN H0 (upd H l o) := fun b u hb n => by
  have nb : b ≠ l := fun z => by
    rw [z] at hb
    obtain ⟨ps, q⟩ := f u hb
    exact n ps q
  rw [upd_ne nb]
  exact e b u hb n
theorem tabs_upd {T : List (Addr × Str)} {H : Hp} {l : Addr} {vs : List V} {o : HO} (t : Tabs T H) (h : H l = some (.lst vs)) : Tabs T (upd H l o) := fun p hp => by
  obtain ⟨ps, h1, h2, h3⟩ := t p hp
  refine ⟨ps, by rw [upd_ne (ne_of h1 h (by intro z; cases z))]; exact h1, h2, fun pos cv hcv => ?_⟩
  obtain ⟨c, e1, e2⟩ := h3 pos cv hcv
  exact ⟨c, e1, by rw [upd_ne (ne_of e2 h (by intro z; unfold CodeO at z; cases z))]; exact e2⟩
theorem lamAt_upd {mk : Addr → NF} {body : Expr} {H : Hp} {v : V} {l : Addr} {vs : List V} {o : HO} (a : LamAt mk body H v) (h : H l = some (.lst vs)) : LamAt mk body (upd H l o) v := by
  obtain ⟨f, c, h1, h2, h3, h4⟩ := a
  exact ⟨f, c, h1, h2, by rw [upd_ne (ne_of h3 h (by intro z; unfold LamO at z; cases z))]; exact h3, by rw [upd_ne (ne_of h4 h (by intro z; unfold CodeO at z; cases z))]; exact h4⟩
def LamK (H : Hp) (v : V) (k : LKind) : Prop := LamAt k.nf k.body H v
theorem lams_ext {H H' : Hp} (e : ExtN H H') : ∀ {vs : List V} {ks : List LKind}, Paired (LamK H) vs ks → Paired (LamK H') vs ks
  | _, _, .nil => .nil
  | _, _, .cons a r => .cons (LamAt.ext a e) (lams_ext e r)
theorem lams_upd {H : Hp} {l : Addr} {us : List V} {o : HO} (h : H l = some (.lst us)) : ∀ {vs : List V} {ks : List LKind}, Paired (LamK H) vs ks → Paired (LamK (upd H l o)) vs ks
  | _, _, .nil => .nil
  | _, _, .cons a r => .cons (lamAt_upd a h) (lams_upd h r)
/-- a list of lambdas in slot i; Fr what else is told, of the list's address -/
def GA (T : List (Addr × Str)) (Fr : Addr → L2.St → Hp → Prop) (i : Nat) (ks : List LKind) (σ : L2.St) (H : Hp) : Prop := ∃ l vs, σ[i]? = some (some (.ref l)) ∧ H l = some (.lst vs) ∧ Paired (LamK H) vs ks ∧ Tabs T H ∧ Fr l σ H
/-- what else is told stays where only tables and the list itself change -/
structure FrOk (T : List (Addr × Str)) (Fr : Addr → L2.St → Hp → Prop) : Prop where
  ext : ∀ l σ H H', Fr l σ H → ExtN H H' → Fr l σ H'
  upd : ∀ l σ H vs o, Fr l σ H → H l = some (.lst vs) → Fr l σ (L2.upd H l o)
section
variable {X : Cx} {T : List (Addr × Str)} {Fr : Addr → L2.St → Hp → Prop} {i : Nat} {ks : List LKind} {x : Str} {p ap cp ep pos lp : Pos} {params : Arguments} {body : Expr} {scope : Scope} {sp : LSp} {mk : Addr → NF}
/-- x.append(lambda: body) -/
theorem ho_lapp (hF : FrOk T Fr) (hk : ks.length ≤ 100) (hv : PE X (.Name x p) (tVar i)) (lam : PE X (.Lambda params body scope lp) (tLamO T mk body)) (hline : (ap.endLine == cp.line) = true := by rfl) :
    Ho X (.Expr (.Call (.Attribute (.Name x p) "append" ap) [.Lambda params body scope lp] [] cp) ep) (GA T Fr i ks) (GA T Fr i (ks ++ [⟨mk, body, sp⟩])) := by
  refine ⟨_, ps_expr (pe_bm PySem.F.plainAttrs_list PySem.F.slot_list_append PySem.F.type_list_append mt_append hv (pa_cons lam pa_nil) (hline := hline)), ?_⟩
  rintro D σ H ⟨l, vs, hi, hl, pd, t, fr⟩ q
  have hz : vs.length = ks.length := Paired.length pd
  refine ⟨_, hi, .inl ⟨rfl, _, SqL.of hl⟩, t, fun v H1 e1 t1 la => ?_⟩
  have hl1 := e1 _ _ hl (by intro ps z; cases z)
  refine ⟨l, vs, v, rfl, rfl, hl1, small1000 (by omega), q _ _ ⟨l, vs ++ [v], hi, upd_same, ?_, tabs_upd t1 hl1, hF.upd _ _ _ _ _ (hF.ext _ _ _ _ fr e1) hl1⟩⟩
  exact Wl.pd_app (lams_upd hl1 (lams_ext e1 pd)) (.cons (lamAt_upd la hl1) .nil)
/-- x = x + [lambda: body] -/
theorem ho_lcat (hN : X.N.Nodup) (hi : X.N[i]? = some x) (hx : Loc X.env.scope x) (hk : ks.length ≤ 100) (hF : FrOk T Fr) (hn : ∀ l l' σ H, Fr l σ H → H l' = none → ∀ o, Fr l' (σ.set i (some (.ref l'))) (upd H l' o)) (hlen : ∀ l σ H, Fr l σ H → i < σ.length) (hv : PE X (.Name x p) (tVar i)) (lam : PE X (.Lambda params body scope lp) (tLamO T mk body))
    (hs : swapsWith (.BinOp (.Name x p) .Add (.List [.Lambda params body scope lp] ap) cp) (some (.Name x ep)) pos.line X.env = pure false := by rfl) (hf : X.fn x = true ∨ X.env.scope.names.lookup x = some .local := by first | exact .inl rfl | exact .inr rfl | assumption) :
    Ho X (.Assign [.Name x ep] (.BinOp (.Name x p) .Add (.List [.Lambda params body scope lp] ap) cp) pos) (GA T Fr i ks) (GA T Fr i (ks ++ [⟨mk, body, sp⟩])) := by
  refine ⟨_, ps_set hN hi hx (pe_op op_cat hv (pe_lst (pa_cons lam pa_nil))) hs hf, ?_⟩
  rintro D σ H ⟨l, vs, hσ, hl, pd, t, fr⟩ q
  have hz : vs.length = ks.length := Paired.length pd
  refine ⟨_, hσ, t, fun v H1 e1 t1 la => ⟨by show 1 ≤ sizeLine; decide, fun l2 h2 => ?_⟩⟩
  have hl1 := e1 _ _ hl (by intro ps z; cases z)
  have s2 := same_new (o := HO.lst [v]) h2
  refine ⟨l, l2, vs, [v], rfl, rfl, s2 _ _ hl1, upd_same, ?_, fun l3 h3 => q _ _ ⟨l3, vs ++ [v], ?_, upd_same, ?_, ?_, ?_⟩⟩
  · rw [sizeLine_eq]
    show vs.length + 1 ≤ _
    omega
  · exact List.getElem?_set_self (hlen _ _ _ fr)
  · have e13 : ExtN H1 (upd (upd H1 l2 (.lst [v])) l3 (.lst (vs ++ [v]))) := ExtN.of (s2.trans (same_new h3))
    exact Wl.pd_app (lams_ext (e1.trans e13) pd) (.cons (LamAt.ext la e13) .nil)
  · exact t1.ext (s2.trans (same_new h3))
  · exact hn l l3 σ _ (hF.ext _ _ _ _ fr (e1.trans (ExtN.of s2))) h3 _
/-- x = [lambda: body] -/
theorem ho_lset {G : L2.St → Hp → Prop} (hN : X.N.Nodup) (hi : X.N[i]? = some x) (hx : Loc X.env.scope x) (hG : ∀ σ H, G σ H → Tabs T H ∧ i < σ.length) (hn : ∀ l' σ H H1, G σ H → ExtN H H1 → H1 l' = none → ∀ o, Fr l' (σ.set i (some (.ref l'))) (upd H1 l' o)) (lam : PE X (.Lambda params body scope lp) (tLamO T mk body))
    (hs : swapsWith (.List [.Lambda params body scope lp] ap) (some (.Name x ep)) pos.line X.env = pure false := by rfl) (hf : X.fn x = true ∨ X.env.scope.names.lookup x = some .local := by first | exact .inl rfl | exact .inr rfl | assumption) :
    Ho X (.Assign [.Name x ep] (.List [.Lambda params body scope lp] ap) pos) G (GA T Fr i [⟨mk, body, sp⟩]) := by
  refine ⟨_, ps_set hN hi hx (pe_lst (pa_cons lam pa_nil)) hs hf, ?_⟩
  rintro D σ H g q
  obtain ⟨t, hlen⟩ := hG σ H g
  refine ⟨t, fun v H1 e1 t1 la => ⟨by show 1 ≤ sizeLine; decide, fun l2 h2 => q _ _ ⟨l2, [v], List.getElem?_set_self hlen, upd_same, ?_, t1.ext (same_new h2), hn l2 σ H H1 g e1 h2 _⟩⟩⟩
  exact .cons (LamAt.ext la (ExtN.of (same_new h2))) .nil
end
/-! ### the lambdas of _law_doors -/
def stD (i : Nat) : Stmt := (defBody sDoors).getD i (.Pass ⟨0, 0, 0, 0⟩)
theorem bodyD : defBody sDoors = [stD 0, stD 1, stD 2, stD 3, stD 4, stD 5, stD 6, stD 7, stD 8, stD 9, stD 10, stD 11] := rfl
def exL : Stmt → Expr
  | .Assign _ (.List [e] _) _ => e
  | .Assign _ (.BinOp _ _ (.List [e] _) _) _ => e
  | .Expr (.Call _ [e] _ _) _ => e
  | _ => .Constant .none 0 ⟨0, 0, 0, 0⟩
def lPar : Expr → Arguments
  | .Lambda a _ _ _ => a
  | _ => defArgs sDoors
def lBody : Expr → Expr
  | .Lambda _ b _ _ => b
  | e => e
def lScope : Expr → Scope
  | .Lambda _ _ s _ => s
  | _ => defScope sDoors
def eD (i : Nat) : Expr := exL (stD i)
abbrev frD : List Str := ["_law_world", "_law_odd"]
theorem scD0 : FnScope ["_law_world", "_law_odd", "_law_spaces", "_law_mounts", "_law_ask"] ["_law_world", "_law_odd"] (defScope sDoors) := ⟨rfl, rfl, rfl, by decide +kernel, rfl, by decide +kernel, by decide +kernel⟩
theorem nsD (i : Nat) (h : i < 11) : NScope frD [] frD (lScope (eD i)) := by
  match i, h with
  | 0, _ | 1, _ | 2, _ | 3, _ | 4, _ | 5, _ | 6, _ | 7, _ | 8, _ | 9, _ | 10, _ => exact nscope_by (by decide +kernel)
theorem lamD (i : Nat) (h : i < 11) : LamS (defScope sDoors) (lScope (eD i)) := by
  match i, h with
  | 0, _ | 1, _ | 2, _ | 3, _ | 4, _ | 5, _ | 6, _ | 7, _ | 8, _ | 9, _ | 10, _ => exact lamS_by (by decide +kernel)
theorem namesD (i : Nat) (h : i < 11) : (lScope (eD i)).names = (lScope (eD 0)).names := by
  match i, h with
  | 0, _ | 1, _ | 2, _ | 3, _ | 4, _ | 5, _ | 6, _ | 7, _ | 8, _ | 9, _ | 10, _ => rfl
/-- what a lambda of _law_doors does: it raises the error of C -/
def spDr (K : PySem.W.Frag) (CW CT CM CS : Addr) : LSp := fun ws H Q E => ∃ x dx l1 l2 a z mo B v, ws = [some (.ref x), some v] ∧ WAt H CW CT CM a z mo x dx l1 l2 B ∧ OdAt K H v ∧ ∀ H', Same H H' → E (.ref CS) none H'
end Tx
set_option Elab.async false
set_option linter.all false
set_option maxRecDepth 100000
set_option maxHeartbeats 8000000
namespace Tx
open PySem PySem.Spec PyProof.Rows L2 Cm Ob LmB NdefX LamX
/-- the questions of a world -/
structure Qs (P : Program) (w : World) (K : PySem.W.Frag) (mg : Str → Option Value) (base : Heap) (CW CT CM CS CQ : Addr) : Prop where
  cW : Cn K CW woN
  mounts : MX P w K mg base 2 CW "mounts" ["self", "space"] (spWM K CW CT CM CS rL0)
  shown : MX P w K mg base 2 CW "shown" ["self", "space"] (spWO K CW CT CM CS)
  owner : MX P w K mg base 2 CW "owner" ["self", "space"] (spWM K CW CT CM CS rO)
  trusted : MX P w K mg base 3 CW "trusted" ["self", "space"] (spWM K CW CT CM CS rT)
  plain : MX P w K mg base 3 CW "plain" ["self", "space"] (spWM K CW CT CM CS rPl)
  walk : MX P w K mg base 2 CW "walk" ["self", "space", "path"] (spWO2 K CW CT CM CS)
  told : MX P w K mg base 2 CW "told" ["self", "number"] (spWM K CW CT CM CQ rTo)
  peers : MX P w K mg base 2 CW "peers" ["self", "number"] (spWM K CW CT CM CQ rL0)
  followed : MX P w K mg base 2 CW "followed" ["self", "number"] (spWM K CW CT CM CQ rLe)
  receivers : MX P w K mg base 2 CW "receivers" ["self", "number"] (spWM K CW CT CM CQ rL0)
  path_of : MX P w K mg base 3 CW "path_of" ["self", "number", "node"] (spWO2 K CW CT CM CQ)
section
variable {P : Program} {w : World} {K : PySem.W.Frag} {mg : Str → Option Value} {base : Heap} {CW CT CM CS CQ : Addr} {qual : Str} {cl : List (Str × Addr)}
theorem lok_0 (D : Qs P w K mg base CW CT CM CS CQ) (f c : Addr) : LOk P w K mg base (L2.CX P w) 4 f (LF qual (lPar (eD 0)) (lScope (eD 0)) cl c) (lBody (eD 0)) frD (spDr K CW CT CM CS) := by
  obtain ⟨fm, fdm, mm, Fm, bm⟩ := D.mounts
  refine lok_of (nsD 0 (by decide)) (fun _ _ _ => rfl) fun A outer s H ws Q E hr _ h => ?_
  obtain ⟨x, dx, l1, l2, a, z, mo, B, v, rfl, W, o, q⟩ := h
  refine ⟨_, pe_meth (pv 0) D.cW.cl mm Fm (hr.mono (by decide)) bm .nil (passes_call (takes_of rfl rfl rfl rfl) (fun _ _ _ _ h => h)) (pa_cons (pv 1) pa_nil), ?_⟩
  exact ⟨_, rfl, x, dx, _, rfl, W.hx, rfl, _, rfl, x, dx, l1, l2, a, z, mo, B, v, rfl, W, .inr ⟨o, q⟩⟩
theorem lok_1 (D : Qs P w K mg base CW CT CM CS CQ) (f c : Addr) : LOk P w K mg base (L2.CX P w) 4 f (LF qual (lPar (eD 1)) (lScope (eD 1)) cl c) (lBody (eD 1)) frD (spDr K CW CT CM CS) := by
  obtain ⟨fm, fdm, mm, Fm, bm⟩ := D.shown
  refine lok_of (nsD 1 (by decide)) (fun _ _ _ => rfl) fun A outer s H ws Q E hr _ h => ?_
  obtain ⟨x, dx, l1, l2, a, z, mo, B, v, rfl, W, o, q⟩ := h
  refine ⟨_, pe_meth (pv 0) D.cW.cl mm Fm (hr.mono (by decide)) bm .nil (passes_call (takes_of rfl rfl rfl rfl) (fun _ _ _ _ h => h)) (pa_cons (pv 1) pa_nil), ?_⟩
  exact ⟨_, rfl, x, dx, _, rfl, W.hx, rfl, _, rfl, x, dx, l1, l2, a, z, mo, B, v, rfl, W, o, q⟩
theorem lok_2 (D : Qs P w K mg base CW CT CM CS CQ) (f c : Addr) : LOk P w K mg base (L2.CX P w) 4 f (LF qual (lPar (eD 2)) (lScope (eD 2)) cl c) (lBody (eD 2)) frD (spDr K CW CT CM CS) := by
  obtain ⟨fm, fdm, mm, Fm, bm⟩ := D.owner
  refine lok_of (nsD 2 (by decide)) (fun _ _ _ => rfl) fun A outer s H ws Q E hr _ h => ?_
  obtain ⟨x, dx, l1, l2, a, z, mo, B, v, rfl, W, o, q⟩ := h
  refine ⟨_, pe_meth (pv 0) D.cW.cl mm Fm (hr.mono (by decide)) bm .nil (passes_call (takes_of rfl rfl rfl rfl) (fun _ _ _ _ h => h)) (pa_cons (pv 1) pa_nil), ?_⟩
  exact ⟨_, rfl, x, dx, _, rfl, W.hx, rfl, _, rfl, x, dx, l1, l2, a, z, mo, B, v, rfl, W, .inr ⟨o, q⟩⟩
theorem lok_3 (D : Qs P w K mg base CW CT CM CS CQ) (f c : Addr) : LOk P w K mg base (L2.CX P w) 4 f (LF qual (lPar (eD 3)) (lScope (eD 3)) cl c) (lBody (eD 3)) frD (spDr K CW CT CM CS) := by
  obtain ⟨fm, fdm, mm, Fm, bm⟩ := D.trusted
  refine lok_of (nsD 3 (by decide)) (fun _ _ _ => rfl) fun A outer s H ws Q E hr _ h => ?_
  obtain ⟨x, dx, l1, l2, a, z, mo, B, v, rfl, W, o, q⟩ := h
  refine ⟨_, pe_meth (pv 0) D.cW.cl mm Fm (hr.mono (by decide)) bm .nil (passes_call (takes_of rfl rfl rfl rfl) (fun _ _ _ _ h => h)) (pa_cons (pv 1) pa_nil), ?_⟩
  exact ⟨_, rfl, x, dx, _, rfl, W.hx, rfl, _, rfl, x, dx, l1, l2, a, z, mo, B, v, rfl, W, .inr ⟨o, q⟩⟩
theorem lok_4 (D : Qs P w K mg base CW CT CM CS CQ) (f c : Addr) : LOk P w K mg base (L2.CX P w) 4 f (LF qual (lPar (eD 4)) (lScope (eD 4)) cl c) (lBody (eD 4)) frD (spDr K CW CT CM CS) := by
  obtain ⟨fm, fdm, mm, Fm, bm⟩ := D.plain
  refine lok_of (nsD 4 (by decide)) (fun _ _ _ => rfl) fun A outer s H ws Q E hr _ h => ?_
  obtain ⟨x, dx, l1, l2, a, z, mo, B, v, rfl, W, o, q⟩ := h
  refine ⟨_, pe_meth (pv 0) D.cW.cl mm Fm (hr.mono (by decide)) bm .nil (passes_call (takes_of rfl rfl rfl rfl) (fun _ _ _ _ h => h)) (pa_cons (pv 1) pa_nil), ?_⟩
  exact ⟨_, rfl, x, dx, _, rfl, W.hx, rfl, _, rfl, x, dx, l1, l2, a, z, mo, B, v, rfl, W, .inr ⟨o, q⟩⟩
theorem lok_5 (D : Qs P w K mg base CW CT CM CS CQ) (f c : Addr) : LOk P w K mg base (L2.CX P w) 4 f (LF qual (lPar (eD 5)) (lScope (eD 5)) cl c) (lBody (eD 5)) frD (spDr K CW CT CM CS) := by
  obtain ⟨fm, fdm, mm, Fm, bm⟩ := D.walk
  refine lok_of (nsD 5 (by decide)) (fun _ _ _ => rfl) fun A outer s H ws Q E hr _ h => ?_
  obtain ⟨x, dx, l1, l2, a, z, mo, B, v, rfl, W, o, q⟩ := h
  refine ⟨_, pe_meth (pv 0) D.cW.cl mm Fm (hr.mono (by decide)) bm .nil (passes_call (takes_of rfl rfl rfl rfl) (fun _ _ _ _ h => h)) (pa_cons (pv 1) (pa_cons pe_non pa_nil)), ?_⟩
  exact ⟨_, rfl, x, dx, _, rfl, W.hx, rfl, _, rfl, x, dx, l1, l2, a, z, mo, B, v, .non, rfl, W, o, q⟩
theorem lok_6 (D : Qs P w K mg base CW CT CM CS CQ) (f c : Addr) : LOk P w K mg base (L2.CX P w) 4 f (LF qual (lPar (eD 6)) (lScope (eD 6)) cl c) (lBody (eD 6)) frD (spDr K CW CT CM CQ) := by
  obtain ⟨fm, fdm, mm, Fm, bm⟩ := D.told
  refine lok_of (nsD 6 (by decide)) (fun _ _ _ => rfl) fun A outer s H ws Q E hr _ h => ?_
  obtain ⟨x, dx, l1, l2, a, z, mo, B, v, rfl, W, o, q⟩ := h
  refine ⟨_, pe_meth (pv 0) D.cW.cl mm Fm (hr.mono (by decide)) bm .nil (passes_call (takes_of rfl rfl rfl rfl) (fun _ _ _ _ h => h)) (pa_cons (pv 1) pa_nil), ?_⟩
  exact ⟨_, rfl, x, dx, _, rfl, W.hx, rfl, _, rfl, x, dx, l1, l2, a, z, mo, B, v, rfl, W, .inr ⟨o, q⟩⟩
theorem lok_7 (D : Qs P w K mg base CW CT CM CS CQ) (f c : Addr) : LOk P w K mg base (L2.CX P w) 4 f (LF qual (lPar (eD 7)) (lScope (eD 7)) cl c) (lBody (eD 7)) frD (spDr K CW CT CM CQ) := by
  obtain ⟨fm, fdm, mm, Fm, bm⟩ := D.peers
  refine lok_of (nsD 7 (by decide)) (fun _ _ _ => rfl) fun A outer s H ws Q E hr _ h => ?_
  obtain ⟨x, dx, l1, l2, a, z, mo, B, v, rfl, W, o, q⟩ := h
  refine ⟨_, pe_meth (pv 0) D.cW.cl mm Fm (hr.mono (by decide)) bm .nil (passes_call (takes_of rfl rfl rfl rfl) (fun _ _ _ _ h => h)) (pa_cons (pv 1) pa_nil), ?_⟩
  exact ⟨_, rfl, x, dx, _, rfl, W.hx, rfl, _, rfl, x, dx, l1, l2, a, z, mo, B, v, rfl, W, .inr ⟨o, q⟩⟩
theorem lok_8 (D : Qs P w K mg base CW CT CM CS CQ) (f c : Addr) : LOk P w K mg base (L2.CX P w) 4 f (LF qual (lPar (eD 8)) (lScope (eD 8)) cl c) (lBody (eD 8)) frD (spDr K CW CT CM CQ) := by
  obtain ⟨fm, fdm, mm, Fm, bm⟩ := D.followed
  refine lok_of (nsD 8 (by decide)) (fun _ _ _ => rfl) fun A outer s H ws Q E hr _ h => ?_
  obtain ⟨x, dx, l1, l2, a, z, mo, B, v, rfl, W, o, q⟩ := h
  refine ⟨_, pe_meth (pv 0) D.cW.cl mm Fm (hr.mono (by decide)) bm .nil (passes_call (takes_of rfl rfl rfl rfl) (fun _ _ _ _ h => h)) (pa_cons (pv 1) pa_nil), ?_⟩
  exact ⟨_, rfl, x, dx, _, rfl, W.hx, rfl, _, rfl, x, dx, l1, l2, a, z, mo, B, v, rfl, W, .inr ⟨o, q⟩⟩
theorem lok_9 (D : Qs P w K mg base CW CT CM CS CQ) (f c : Addr) : LOk P w K mg base (L2.CX P w) 4 f (LF qual (lPar (eD 9)) (lScope (eD 9)) cl c) (lBody (eD 9)) frD (spDr K CW CT CM CQ) := by
  obtain ⟨fm, fdm, mm, Fm, bm⟩ := D.receivers
  refine lok_of (nsD 9 (by decide)) (fun _ _ _ => rfl) fun A outer s H ws Q E hr _ h => ?_
  obtain ⟨x, dx, l1, l2, a, z, mo, B, v, rfl, W, o, q⟩ := h
  refine ⟨_, pe_meth (pv 0) D.cW.cl mm Fm (hr.mono (by decide)) bm .nil (passes_call (takes_of rfl rfl rfl rfl) (fun _ _ _ _ h => h)) (pa_cons (pv 1) pa_nil), ?_⟩
  exact ⟨_, rfl, x, dx, _, rfl, W.hx, rfl, _, rfl, x, dx, l1, l2, a, z, mo, B, v, rfl, W, .inr ⟨o, q⟩⟩
theorem lok_10 (D : Qs P w K mg base CW CT CM CS CQ) (f c : Addr) : LOk P w K mg base (L2.CX P w) 4 f (LF qual (lPar (eD 10)) (lScope (eD 10)) cl c) (lBody (eD 10)) frD (spDr K CW CT CM CQ) := by
  obtain ⟨fm, fdm, mm, Fm, bm⟩ := D.path_of
  refine lok_of (nsD 10 (by decide)) (fun _ _ _ => rfl) fun A outer s H ws Q E hr _ h => ?_
  obtain ⟨x, dx, l1, l2, a, z, mo, B, v, rfl, W, o, q⟩ := h
  refine ⟨_, pe_meth (pv 0) D.cW.cl mm Fm (hr.mono (by decide)) bm .nil (passes_call (takes_of rfl rfl rfl rfl) (fun _ _ _ _ h => h)) (pa_cons (pv 1) (pa_cons pe_non pa_nil)), ?_⟩
  exact ⟨_, rfl, x, dx, _, rfl, W.hx, rfl, _, rfl, x, dx, l1, l2, a, z, mo, B, v, .non, rfl, W, o, q⟩
end
end Tx
set_option Elab.async false
set_option linter.all false
set_option maxRecDepth 100000
set_option maxHeartbeats 8000000
namespace Tx
open PySem PySem.Spec PyProof.Rows L2 Cm Ob LmB NdefX LamX
abbrev nDo : List Str := ["_law_world", "_law_odd", "_law_spaces", "_law_mounts", "_law_ask"]
abbrev XD (P : Program) (w : World) (K : PySem.W.Frag) (mg : Str → Option Value) (base : Heap) (f c : Addr) (A : Around) (outer : List Env) (s : Shared) (H0 : Hp) (E : XK) : Cx := (cxOf CX0 P w K mg base nDo "_law_doors" (defScope sDoors) f (.ref c) A outer s H0 E).nox
def lamQD : Str := (("_law_doors" : Str) ++ ".<locals>.") ++ "<lambda>"
def kD (X : Cx) (i : Nat) (sp : LSp) : LKind := ⟨LF (X.env.qual ++ "<lambda>") (lPar (eD i)) (lScope (eD i)) (cloFrom X.env.cells (lScope (eD i)).names []), lBody (eD i), sp⟩
def Fr1 (H0 : Hp) (x : Addr) (v : V) (l : Addr) (σ : L2.St) (H : Hp) : Prop := σ = [some (.ref x), some v, some (.ref l), none, none] ∧ Fsh H0 l ∧ ExtN H0 H
def Fr2 (H0 : Hp) (x : Addr) (v : V) (k6 : List LKind) (l : Addr) (σ : L2.St) (H : Hp) : Prop := ∃ l2 vs2, σ = [some (.ref x), some v, some (.ref l2), some (.ref l), none] ∧ l2 ≠ l ∧ Fsh H0 l ∧ ExtN H0 H ∧ H l2 = some (.lst vs2) ∧ Paired (LamK H) vs2 k6
theorem frOk1 {T : List (Addr × Str)} {H0 : Hp} {x : Addr} {v : V} : FrOk T (Fr1 H0 x v) := ⟨fun l σ H H' ⟨e, f, h⟩ n => ⟨e, f, h.trans n⟩, fun l σ H vs o ⟨e, f, h⟩ hl => ⟨e, f, extN_upd h f⟩⟩
theorem frOk2 {T : List (Addr × Str)} {H0 : Hp} {x : Addr} {v : V} {k6 : List LKind} : FrOk T (Fr2 H0 x v k6) := ⟨fun l σ H H' ⟨l2, vs2, e, n2, f, h, h2, pd⟩ n => ⟨l2, vs2, e, n2, f, h.trans n, n _ _ h2 (by intro ps z; cases z), lams_ext n pd⟩,
  fun l σ H vs o ⟨l2, vs2, e, n2, f, h, h2, pd⟩ hl => ⟨l2, vs2, e, n2, f, extN_upd h f, by rw [upd_ne n2]; exact h2, lams_upd hl pd⟩⟩
section
variable {P : Program} {w : World} {K : PySem.W.Frag} {mg : Str → Option Value} {base : Heap} {f c Pt : Addr} {A : Around} {outer : List Env} {s : Shared} {H0 : Hp} {E : XK} {CW CT CM : Addr} {C : Fin 4 → Addr} {T : List (Addr × Str)} {x : Addr} {v : V}
/-- what the making of lambdas asks -/
structure LmT (base : Heap) (mg : Str → Option Value) (T : List (Addr × Str)) (c Pt : Addr) (q : Str) : Prop where
  tb : TabB base mg c Pt
  mem : (Pt, q) ∈ T
  uni : ∀ p ∈ T, p.1 = Pt → p.2 = q
theorem pe_lamD (i : Nat) (h : i < 11) (L : LmT base mg T c Pt lamQD) {lp : Pos} (hdef : defaultsOf (lPar (eD i)) (XD P w K mg base f c A outer s H0 E).env = ([], [])) : PE (XD P w K mg base f c A outer s H0 E) (.Lambda (lPar (eD i)) (lBody (eD i)) (lScope (eD i)) lp) (tLamO T (LF ((XD P w K mg base f c A outer s H0 E).env.qual ++ "<lambda>") (lPar (eD i)) (lScope (eD i)) (cloFrom (XD P w K mg base f c A outer s H0 E).env.cells (lScope (eD i)).names [])) (lBody (eD i))) :=
  pe_lam L.tb rfl L.mem L.uni hdef (lamD i h)
abbrev kS (X : Cx) (K : PySem.W.Frag) (CW CT CM CS : Addr) : List LKind := [kD X 0 (spDr K CW CT CM CS), kD X 1 (spDr K CW CT CM CS), kD X 2 (spDr K CW CT CM CS), kD X 3 (spDr K CW CT CM CS), kD X 4 (spDr K CW CT CM CS), kD X 5 (spDr K CW CT CM CS)]
abbrev kM (X : Cx) (K : PySem.W.Frag) (CW CT CM CQ : Addr) : List LKind := [kD X 6 (spDr K CW CT CM CQ), kD X 7 (spDr K CW CT CM CQ), kD X 8 (spDr K CW CT CM CQ), kD X 9 (spDr K CW CT CM CQ), kD X 10 (spDr K CW CT CM CQ)]
theorem hDo0 (L : LmT base mg T c Pt lamQD) : Ho (XD P w K mg base f c A outer s H0 E) (stD 0) (fun σ H => σ = [some (.ref x), some v, none, none, none] ∧ Tabs T H ∧ ExtN H0 H) (GA T (Fr1 H0 x v) 2 [kD (XD P w K mg base f c A outer s H0 E) 0 (spDr K CW CT CM (C 2))]) := by
  refine ho_lset (i := 2) scD0.nd rfl (.inl rfl) (fun σ H g => ⟨g.2.1, by rw [g.1]; show 2 < 5; decide⟩) (fun l' σ H H1 g e n o => ?_) (pe_lamD 0 (by decide) L rfl)
  obtain ⟨rfl, t, h⟩ := g
  have fs := fsh_of (h.trans e) n
  exact ⟨rfl, fs, extN_upd (h.trans e) fs⟩
theorem hDo1 (L : LmT base mg T c Pt lamQD) : Ho (XD P w K mg base f c A outer s H0 E) (stD 1) (GA T (Fr1 H0 x v) 2 [kD (XD P w K mg base f c A outer s H0 E) 0 (spDr K CW CT CM (C 2))]) (GA T (Fr1 H0 x v) 2 ([kD (XD P w K mg base f c A outer s H0 E) 0 (spDr K CW CT CM (C 2))] ++ [kD (XD P w K mg base f c A outer s H0 E) 1 (spDr K CW CT CM (C 2))])) := ho_lapp frOk1 (by show 1 ≤ 100; decide) (pv 2) (pe_lamD 1 (by decide) L rfl)
theorem hDo3 (L : LmT base mg T c Pt lamQD) : Ho (XD P w K mg base f c A outer s H0 E) (stD 3) (GA T (Fr1 H0 x v) 2 [kD (XD P w K mg base f c A outer s H0 E) 0 (spDr K CW CT CM (C 2)), kD (XD P w K mg base f c A outer s H0 E) 1 (spDr K CW CT CM (C 2)), kD (XD P w K mg base f c A outer s H0 E) 2 (spDr K CW CT CM (C 2))]) (GA T (Fr1 H0 x v) 2 ([kD (XD P w K mg base f c A outer s H0 E) 0 (spDr K CW CT CM (C 2)), kD (XD P w K mg base f c A outer s H0 E) 1 (spDr K CW CT CM (C 2)), kD (XD P w K mg base f c A outer s H0 E) 2 (spDr K CW CT CM (C 2))] ++ [kD (XD P w K mg base f c A outer s H0 E) 3 (spDr K CW CT CM (C 2))])) := ho_lapp frOk1 (by show 3 ≤ 100; decide) (pv 2) (pe_lamD 3 (by decide) L rfl)
theorem hDo4 (L : LmT base mg T c Pt lamQD) : Ho (XD P w K mg base f c A outer s H0 E) (stD 4) (GA T (Fr1 H0 x v) 2 [kD (XD P w K mg base f c A outer s H0 E) 0 (spDr K CW CT CM (C 2)), kD (XD P w K mg base f c A outer s H0 E) 1 (spDr K CW CT CM (C 2)), kD (XD P w K mg base f c A outer s H0 E) 2 (spDr K CW CT CM (C 2)), kD (XD P w K mg base f c A outer s H0 E) 3 (spDr K CW CT CM (C 2))]) (GA T (Fr1 H0 x v) 2 ([kD (XD P w K mg base f c A outer s H0 E) 0 (spDr K CW CT CM (C 2)), kD (XD P w K mg base f c A outer s H0 E) 1 (spDr K CW CT CM (C 2)), kD (XD P w K mg base f c A outer s H0 E) 2 (spDr K CW CT CM (C 2)), kD (XD P w K mg base f c A outer s H0 E) 3 (spDr K CW CT CM (C 2))] ++ [kD (XD P w K mg base f c A outer s H0 E) 4 (spDr K CW CT CM (C 2))])) := ho_lapp frOk1 (by show 4 ≤ 100; decide) (pv 2) (pe_lamD 4 (by decide) L rfl)
theorem hDo5 (L : LmT base mg T c Pt lamQD) : Ho (XD P w K mg base f c A outer s H0 E) (stD 5) (GA T (Fr1 H0 x v) 2 [kD (XD P w K mg base f c A outer s H0 E) 0 (spDr K CW CT CM (C 2)), kD (XD P w K mg base f c A outer s H0 E) 1 (spDr K CW CT CM (C 2)), kD (XD P w K mg base f c A outer s H0 E) 2 (spDr K CW CT CM (C 2)), kD (XD P w K mg base f c A outer s H0 E) 3 (spDr K CW CT CM (C 2)), kD (XD P w K mg base f c A outer s H0 E) 4 (spDr K CW CT CM (C 2))]) (GA T (Fr1 H0 x v) 2 ([kD (XD P w K mg base f c A outer s H0 E) 0 (spDr K CW CT CM (C 2)), kD (XD P w K mg base f c A outer s H0 E) 1 (spDr K CW CT CM (C 2)), kD (XD P w K mg base f c A outer s H0 E) 2 (spDr K CW CT CM (C 2)), kD (XD P w K mg base f c A outer s H0 E) 3 (spDr K CW CT CM (C 2)), kD (XD P w K mg base f c A outer s H0 E) 4 (spDr K CW CT CM (C 2))] ++ [kD (XD P w K mg base f c A outer s H0 E) 5 (spDr K CW CT CM (C 2))])) := ho_lapp frOk1 (by show 5 ≤ 100; decide) (pv 2) (pe_lamD 5 (by decide) L rfl)
theorem hDo2 (L : LmT base mg T c Pt lamQD) : Ho (XD P w K mg base f c A outer s H0 E) (stD 2) (GA T (Fr1 H0 x v) 2 [kD (XD P w K mg base f c A outer s H0 E) 0 (spDr K CW CT CM (C 2)), kD (XD P w K mg base f c A outer s H0 E) 1 (spDr K CW CT CM (C 2))]) (GA T (Fr1 H0 x v) 2 ([kD (XD P w K mg base f c A outer s H0 E) 0 (spDr K CW CT CM (C 2)), kD (XD P w K mg base f c A outer s H0 E) 1 (spDr K CW CT CM (C 2))] ++ [kD (XD P w K mg base f c A outer s H0 E) 2 (spDr K CW CT CM (C 2))])) := by
  refine ho_lcat (i := 2) scD0.nd rfl (.inl rfl) (by show 2 ≤ 100; decide) frOk1 (fun l l' σ H h n o => ?_) (fun l σ H h => by rw [h.1]; show 2 < 5; decide) (pv 2) (pe_lamD 2 (by decide) L rfl)
  obtain ⟨rfl, f', e⟩ := h
  have fs := fsh_of e n
  exact ⟨rfl, fs, extN_upd e fs⟩
theorem hDo6 (L : LmT base mg T c Pt lamQD) : Ho (XD P w K mg base f c A outer s H0 E) (stD 6) (GA T (Fr1 H0 x v) 2 [kD (XD P w K mg base f c A outer s H0 E) 0 (spDr K CW CT CM (C 2)), kD (XD P w K mg base f c A outer s H0 E) 1 (spDr K CW CT CM (C 2)), kD (XD P w K mg base f c A outer s H0 E) 2 (spDr K CW CT CM (C 2)), kD (XD P w K mg base f c A outer s H0 E) 3 (spDr K CW CT CM (C 2)), kD (XD P w K mg base f c A outer s H0 E) 4 (spDr K CW CT CM (C 2)), kD (XD P w K mg base f c A outer s H0 E) 5 (spDr K CW CT CM (C 2))]) (GA T (Fr2 H0 x v [kD (XD P w K mg base f c A outer s H0 E) 0 (spDr K CW CT CM (C 2)), kD (XD P w K mg base f c A outer s H0 E) 1 (spDr K CW CT CM (C 2)), kD (XD P w K mg base f c A outer s H0 E) 2 (spDr K CW CT CM (C 2)), kD (XD P w K mg base f c A outer s H0 E) 3 (spDr K CW CT CM (C 2)), kD (XD P w K mg base f c A outer s H0 E) 4 (spDr K CW CT CM (C 2)), kD (XD P w K mg base f c A outer s H0 E) 5 (spDr K CW CT CM (C 2))]) 3 [kD (XD P w K mg base f c A outer s H0 E) 6 (spDr K CW CT CM (C 3))]) := by
  refine ho_lset (i := 3) scD0.nd rfl (.inl rfl) (fun σ H g => ?_) (fun l' σ H H1 g e n o => ?_) (pe_lamD 6 (by decide) L rfl)
  · obtain ⟨l, vs, h1, h2, h3, h4, h5⟩ := g
    exact ⟨h4, by rw [h5.1]; show 3 < 5; decide⟩
  · obtain ⟨l, vs, h1, h2, h3, h4, rfl, f', e'⟩ := g
    have fs := fsh_of (e'.trans e) n
    have hl1 := e _ _ h2 (by intro ps z; cases z)
    have nl : l ≠ l' := ne_of_none hl1 n
    exact ⟨l, vs, rfl, nl, fs, extN_upd (e'.trans e) fs, by rw [upd_ne nl]; exact hl1, lams_ext (ExtN.of (same_new n)) (lams_ext e h3)⟩
theorem hDo7 (L : LmT base mg T c Pt lamQD) : Ho (XD P w K mg base f c A outer s H0 E) (stD 7) (GA T (Fr2 H0 x v [kD (XD P w K mg base f c A outer s H0 E) 0 (spDr K CW CT CM (C 2)), kD (XD P w K mg base f c A outer s H0 E) 1 (spDr K CW CT CM (C 2)), kD (XD P w K mg base f c A outer s H0 E) 2 (spDr K CW CT CM (C 2)), kD (XD P w K mg base f c A outer s H0 E) 3 (spDr K CW CT CM (C 2)), kD (XD P w K mg base f c A outer s H0 E) 4 (spDr K CW CT CM (C 2)), kD (XD P w K mg base f c A outer s H0 E) 5 (spDr K CW CT CM (C 2))]) 3 [kD (XD P w K mg base f c A outer s H0 E) 6 (spDr K CW CT CM (C 3))]) (GA T (Fr2 H0 x v [kD (XD P w K mg base f c A outer s H0 E) 0 (spDr K CW CT CM (C 2)), kD (XD P w K mg base f c A outer s H0 E) 1 (spDr K CW CT CM (C 2)), kD (XD P w K mg base f c A outer s H0 E) 2 (spDr K CW CT CM (C 2)), kD (XD P w K mg base f c A outer s H0 E) 3 (spDr K CW CT CM (C 2)), kD (XD P w K mg base f c A outer s H0 E) 4 (spDr K CW CT CM (C 2)), kD (XD P w K mg base f c A outer s H0 E) 5 (spDr K CW CT CM (C 2))]) 3 ([kD (XD P w K mg base f c A outer s H0 E) 6 (spDr K CW CT CM (C 3))] ++ [kD (XD P w K mg base f c A outer s H0 E) 7 (spDr K CW CT CM (C 3))])) := ho_lapp frOk2 (by show 1 ≤ 100; decide) (pv 3) (pe_lamD 7 (by decide) L rfl)
theorem hDo8 (L : LmT base mg T c Pt lamQD) : Ho (XD P w K mg base f c A outer s H0 E) (stD 8) (GA T (Fr2 H0 x v [kD (XD P w K mg base f c A outer s H0 E) 0 (spDr K CW CT CM (C 2)), kD (XD P w K mg base f c A outer s H0 E) 1 (spDr K CW CT CM (C 2)), kD (XD P w K mg base f c A outer s H0 E) 2 (spDr K CW CT CM (C 2)), kD (XD P w K mg base f c A outer s H0 E) 3 (spDr K CW CT CM (C 2)), kD (XD P w K mg base f c A outer s H0 E) 4 (spDr K CW CT CM (C 2)), kD (XD P w K mg base f c A outer s H0 E) 5 (spDr K CW CT CM (C 2))]) 3 [kD (XD P w K mg base f c A outer s H0 E) 6 (spDr K CW CT CM (C 3)), kD (XD P w K mg base f c A outer s H0 E) 7 (spDr K CW CT CM (C 3))]) (GA T (Fr2 H0 x v [kD (XD P w K mg base f c A outer s H0 E) 0 (spDr K CW CT CM (C 2)), kD (XD P w K mg base f c A outer s H0 E) 1 (spDr K CW CT CM (C 2)), kD (XD P w K mg base f c A outer s H0 E) 2 (spDr K CW CT CM (C 2)), kD (XD P w K mg base f c A outer s H0 E) 3 (spDr K CW CT CM (C 2)), kD (XD P w K mg base f c A outer s H0 E) 4 (spDr K CW CT CM (C 2)), kD (XD P w K mg base f c A outer s H0 E) 5 (spDr K CW CT CM (C 2))]) 3 ([kD (XD P w K mg base f c A outer s H0 E) 6 (spDr K CW CT CM (C 3)), kD (XD P w K mg base f c A outer s H0 E) 7 (spDr K CW CT CM (C 3))] ++ [kD (XD P w K mg base f c A outer s H0 E) 8 (spDr K CW CT CM (C 3))])) := ho_lapp frOk2 (by show 2 ≤ 100; decide) (pv 3) (pe_lamD 8 (by decide) L rfl)
theorem hDo9 (L : LmT base mg T c Pt lamQD) : Ho (XD P w K mg base f c A outer s H0 E) (stD 9) (GA T (Fr2 H0 x v [kD (XD P w K mg base f c A outer s H0 E) 0 (spDr K CW CT CM (C 2)), kD (XD P w K mg base f c A outer s H0 E) 1 (spDr K CW CT CM (C 2)), kD (XD P w K mg base f c A outer s H0 E) 2 (spDr K CW CT CM (C 2)), kD (XD P w K mg base f c A outer s H0 E) 3 (spDr K CW CT CM (C 2)), kD (XD P w K mg base f c A outer s H0 E) 4 (spDr K CW CT CM (C 2)), kD (XD P w K mg base f c A outer s H0 E) 5 (spDr K CW CT CM (C 2))]) 3 [kD (XD P w K mg base f c A outer s H0 E) 6 (spDr K CW CT CM (C 3)), kD (XD P w K mg base f c A outer s H0 E) 7 (spDr K CW CT CM (C 3)), kD (XD P w K mg base f c A outer s H0 E) 8 (spDr K CW CT CM (C 3))]) (GA T (Fr2 H0 x v [kD (XD P w K mg base f c A outer s H0 E) 0 (spDr K CW CT CM (C 2)), kD (XD P w K mg base f c A outer s H0 E) 1 (spDr K CW CT CM (C 2)), kD (XD P w K mg base f c A outer s H0 E) 2 (spDr K CW CT CM (C 2)), kD (XD P w K mg base f c A outer s H0 E) 3 (spDr K CW CT CM (C 2)), kD (XD P w K mg base f c A outer s H0 E) 4 (spDr K CW CT CM (C 2)), kD (XD P w K mg base f c A outer s H0 E) 5 (spDr K CW CT CM (C 2))]) 3 ([kD (XD P w K mg base f c A outer s H0 E) 6 (spDr K CW CT CM (C 3)), kD (XD P w K mg base f c A outer s H0 E) 7 (spDr K CW CT CM (C 3)), kD (XD P w K mg base f c A outer s H0 E) 8 (spDr K CW CT CM (C 3))] ++ [kD (XD P w K mg base f c A outer s H0 E) 9 (spDr K CW CT CM (C 3))])) := ho_lapp frOk2 (by show 3 ≤ 100; decide) (pv 3) (pe_lamD 9 (by decide) L rfl)
theorem hDo10 (L : LmT base mg T c Pt lamQD) : Ho (XD P w K mg base f c A outer s H0 E) (stD 10) (GA T (Fr2 H0 x v [kD (XD P w K mg base f c A outer s H0 E) 0 (spDr K CW CT CM (C 2)), kD (XD P w K mg base f c A outer s H0 E) 1 (spDr K CW CT CM (C 2)), kD (XD P w K mg base f c A outer s H0 E) 2 (spDr K CW CT CM (C 2)), kD (XD P w K mg base f c A outer s H0 E) 3 (spDr K CW CT CM (C 2)), kD (XD P w K mg base f c A outer s H0 E) 4 (spDr K CW CT CM (C 2)), kD (XD P w K mg base f c A outer s H0 E) 5 (spDr K CW CT CM (C 2))]) 3 [kD (XD P w K mg base f c A outer s H0 E) 6 (spDr K CW CT CM (C 3)), kD (XD P w K mg base f c A outer s H0 E) 7 (spDr K CW CT CM (C 3)), kD (XD P w K mg base f c A outer s H0 E) 8 (spDr K CW CT CM (C 3)), kD (XD P w K mg base f c A outer s H0 E) 9 (spDr K CW CT CM (C 3))]) (GA T (Fr2 H0 x v [kD (XD P w K mg base f c A outer s H0 E) 0 (spDr K CW CT CM (C 2)), kD (XD P w K mg base f c A outer s H0 E) 1 (spDr K CW CT CM (C 2)), kD (XD P w K mg base f c A outer s H0 E) 2 (spDr K CW CT CM (C 2)), kD (XD P w K mg base f c A outer s H0 E) 3 (spDr K CW CT CM (C 2)), kD (XD P w K mg base f c A outer s H0 E) 4 (spDr K CW CT CM (C 2)), kD (XD P w K mg base f c A outer s H0 E) 5 (spDr K CW CT CM (C 2))]) 3 ([kD (XD P w K mg base f c A outer s H0 E) 6 (spDr K CW CT CM (C 3)), kD (XD P w K mg base f c A outer s H0 E) 7 (spDr K CW CT CM (C 3)), kD (XD P w K mg base f c A outer s H0 E) 8 (spDr K CW CT CM (C 3)), kD (XD P w K mg base f c A outer s H0 E) 9 (spDr K CW CT CM (C 3))] ++ [kD (XD P w K mg base f c A outer s H0 E) 10 (spDr K CW CT CM (C 3))])) := ho_lapp frOk2 (by show 4 ≤ 100; decide) (pv 3) (pe_lamD 10 (by decide) L rfl)
theorem hDos (L : LmT base mg T c Pt lamQD) : HoS (XD P w K mg base f c A outer s H0 E) [stD 0, stD 1, stD 2, stD 3, stD 4, stD 5, stD 6, stD 7, stD 8, stD 9, stD 10] (fun σ H => σ = [some (.ref x), some v, none, none, none] ∧ Tabs T H ∧ ExtN H0 H) (GA T (Fr2 H0 x v (kS (XD P w K mg base f c A outer s H0 E) K CW CT CM (C 2))) 3 (kM (XD P w K mg base f c A outer s H0 E) K CW CT CM (C 3))) :=
  HoS.cons (hDo0 L) (HoS.cons (hDo1 L) (HoS.cons (hDo2 L) (HoS.cons (hDo3 L) (HoS.cons (hDo4 L) (HoS.cons (hDo5 L) (HoS.cons (hDo6 L) (HoS.cons (hDo7 L) (HoS.cons (hDo8 L) (HoS.cons (hDo9 L) (HoS.cons (hDo10 L) HoS.nil))))))))))
end
end Tx
set_option Elab.async false
set_option linter.all false
set_option maxRecDepth 100000
set_option maxHeartbeats 8000000
namespace Tx
open PySem PySem.Spec PyProof.Rows L2 Cm Ob LmB NdefX LamX
def ext_TAt {H H' : Hp} {CT CM : Addr} {a : List (Key × V)} {z : Str} {mo : Int} {A : Ad} (t : TAt H CT CM a z mo A) (s : ExtN H H') : TAt H' CT CM a z mo A :=
  ⟨s _ _ t.hT (by intro _ z; cases z), s _ _ t.tr (by intro _ z; cases z), s _ _ t.kn (by intro _ z; cases z), s _ _ t.pl (by intro _ z; cases z), s _ _ t.tp (by intro _ z; cases z), s _ _ t.ow (by intro _ z; cases z), s _ _ t.ms (by intro _ z; cases z), s _ _ t.mb (by intro _ z; cases z), s _ _ t.bh (by intro _ z; cases z), s _ _ t.ct (by intro _ z; cases z), s _ _ t.hm (by intro _ z; cases z), s _ _ t.e (by intro _ z; cases z), s _ _ t.rt (by intro _ z; cases z)⟩
theorem WAt.ext {H H' : Hp} {CW CT CM : Addr} {a : List (Key × V)} {z : Str} {mo : Int} {x dx l1 l2 : Addr} {A : Ad} (t : WAt H CW CT CM a z mo x dx l1 l2 A) (s : ExtN H H') : WAt H' CW CT CM a z mo x dx l1 l2 A :=
  ⟨s _ _ t.hx (by intro _ z; cases z), s _ _ t.h1 (by intro _ z; cases z), s _ _ t.h2 (by intro _ z; cases z), ext_TAt t.t s⟩
/-- what is no number: by what may stand in the law's list -/
inductive OdV (H : Hp) : V → Prop
  | int (i : Int) (h : i ≠ 0) : OdV H (.int i)
  | bl (b : Bool) : OdV H (.bl b)
  | non : OdV H .non
  | str (z : Str) : OdV H (.str z)
  | lst (a : Addr) (xs : List V) (h : H a = some (.lst xs)) : OdV H (.ref a)
  | dK (a : Addr) (xs : List (Key × V)) (h : H a = some (.dK xs)) : OdV H (.ref a)
theorem OdV.ext {H H' : Hp} {v : V} (o : OdV H v) (e : ExtN H H') : OdV H' v := by
  cases o with
  | int i h => exact .int i h
  | bl b => exact .bl b
  | non => exact .non
  | str z => exact .str z
  | lst a xs h => exact .lst a xs (e _ _ h (by intro _ z; cases z))
  | dK a xs h => exact .dK a xs (e _ _ h (by intro _ z; cases z))
theorem OdV.at {K : PySem.W.Frag} {H : Hp} {v : V} (o : OdV H v) : OdAt K H v := by
  cases o with
  | int i h => exact .int i h
  | bl b => exact .bl b
  | non => exact .oth (.base .non) (by decide +kernel)
  | str z => exact .oth (.base (.str z)) (by decide +kernel)
  | lst a xs h => exact .oth (.base (.lst h)) (by decide +kernel)
  | dK a xs h => exact .oth (.base (.dK h)) (by decide +kernel)
def spDoors (T : List (Addr × Str)) (CW CT CM : Addr) : Sp := fun vs H Q _ => ∃ x dx l1 l2 a z mo B v, vs = [.ref x, v] ∧ WAt H CW CT CM a z mo x dx l1 l2 B ∧ OdV H v ∧ Tabs T H ∧ ∀ H', ExtN H H' → Tabs T H' → Q (.bl true) H'
def reps (n : Nat) (z : Str) : List V := List.replicate n (.str z)
theorem reps_dp {K : PySem.W.Frag} {H : Hp} {p : Addr} {n : Nat} {z : Str} (h : H p = some (.lst (reps n z))) : Dp K H (.ref p) (.list (List.replicate n (.str z))) := by
  refine .lst (SqL.of h) ?_
  clear h
  induction n with
  | zero => exact .nil
  | succ n ih => exact .cons (.str z) ih
theorem kit_mem {X : Cx} {K : PySem.W.Frag} {CW CT CM CS : Addr} {k : LKind} (h : k ∈ kS X K CW CT CM CS) : ∃ i, i < 6 ∧ k = kD X i (spDr K CW CT CM CS) := by
  simp only [kS, List.mem_cons, List.not_mem_nil, or_false] at h
  rcases h with h | h | h | h | h | h
  · exact ⟨0, by decide, h⟩
  · exact ⟨1, by decide, h⟩
  · exact ⟨2, by decide, h⟩
  · exact ⟨3, by decide, h⟩
  · exact ⟨4, by decide, h⟩
  · exact ⟨5, by decide, h⟩
theorem kim_mem {X : Cx} {K : PySem.W.Frag} {CW CT CM CS : Addr} {k : LKind} (h : k ∈ kM X K CW CT CM CS) : ∃ i, 6 ≤ i ∧ i < 11 ∧ k = kD X i (spDr K CW CT CM CS) := by
  simp only [kM, List.mem_cons, List.not_mem_nil, or_false] at h
  rcases h with h | h | h | h | h
  · exact ⟨6, by decide, by decide, h⟩
  · exact ⟨7, by decide, by decide, h⟩
  · exact ⟨8, by decide, by decide, h⟩
  · exact ⟨9, by decide, by decide, h⟩
  · exact ⟨10, by decide, by decide, h⟩
section
variable {P : Program} {w : World} {K : PySem.W.Frag} {mg : Str → Option Value} {base : Heap} {f c Pt : Addr} {A : Around} {outer : List Env} {s : Shared} {H0 : Hp} {E : XK} {CW CT CM : Addr} {C : Fin 4 → Addr} {T : List (Addr × Str)} {x : Addr} {v : V}
abbrev clD (P : Program) (w : World) (K : PySem.W.Frag) (mg : Str → Option Value) (base : Heap) (f c : Addr) (A : Around) (outer : List Env) (s : Shared) (H0 : Hp) (E : XK) : List (Str × Addr) := cloFrom (XD P w K mg base f c A outer s H0 E).env.cells (lScope (eD 0)).names []
theorem capsD (ok : (XD P w K mg base f c A outer s H0 E).Ok) : Caps (XD P w K mg base f c A outer s H0 E) (clD P w K mg base f c A outer s H0 E) frD [0, 1] :=
  Caps.made ok (lamD 0 (by decide)).free (by decide +kernel) rfl
theorem loks (D : Qs P w K mg base CW CT CM (C 2) (C 3)) : ∀ l ∈ kS (XD P w K mg base f c A outer s H0 E) K CW CT CM (C 2), ∀ g d, LOk P w K mg base (L2.CX P w) 4 g (l.nf d) l.body frD l.sp := fun l hl g d => by
  simp only [kS, List.mem_cons, List.not_mem_nil, or_false] at hl
  rcases hl with rfl | rfl | rfl | rfl | rfl | rfl
  · exact lok_0 D g d
  · exact lok_1 D g d
  · exact lok_2 D g d
  · exact lok_3 D g d
  · exact lok_4 D g d
  · exact lok_5 D g d
theorem lokm (D : Qs P w K mg base CW CT CM (C 2) (C 3)) : ∀ l ∈ kM (XD P w K mg base f c A outer s H0 E) K CW CT CM (C 3), ∀ g d, LOk P w K mg base (L2.CX P w) 4 g (l.nf d) l.body frD l.sp := fun l hl g d => by
  simp only [kM, List.mem_cons, List.not_mem_nil, or_false] at hl
  rcases hl with rfl | rfl | rfl | rfl | rfl
  · exact lok_6 D g d
  · exact lok_7 D g d
  · exact lok_8 D g d
  · exact lok_9 D g d
  · exact lok_10 D g d
theorem hDo11 (D : Qs P w K mg base CW CT CM (C 2) (C 3)) (G : GOk P w K mg base 4 5 "_law_word" (TTw C)) (hr : Room 5 (XD P w K mg base f c A outer s H0 E).A) {dx l1 l2 : Addr} {a : List (Key × V)} {z : Str} {mo : Int} {B : Ad} (W : WAt H0 CW CT CM a z mo x dx l1 l2 B) (o : OdV H0 v) :
    HoR (XD P w K mg base f c A outer s H0 E) [stD 11] (GA T (Fr2 H0 x v (kS (XD P w K mg base f c A outer s H0 E) K CW CT CM (C 2))) 3 (kM (XD P w K mg base f c A outer s H0 E) K CW CT CM (C 3))) (fun u H' => u = .bl true ∧ ExtN H0 H' ∧ Tabs T H') := by
  refine ⟨_, pss_one (ps_ret (pe_and (pe_cmpR (op_eqD hr.units) (pe_lcI (own := [("_law_ask", 4)]) (g := gName 4) (tt := tYes) (te := fun σ => tGive (clD P w K mg base f c A outer s H0 E) (kS (XD P w K mg base f c A outer s H0 E) K CW CT CM (C 2)) (fun _ => [0, 1].map (slotAt σ)) (TTw C) (tVar 4)) rfl scD0.nd (pi_list (pv 2)) (blkOk_by (own := [("_law_ask", 4)]) (N := nDo) (sc := defScope sDoors) (by decide +kernel)) (fun _ _ _ _ _ => pg_name (i := 4) scD0.nd rfl (Or.inl rfl)) (fun _ _ _ _ _ => pts_nil) (fun σ pins s' H' C' cl' fp I hfp => pe_give G (by rfl) (cellC_blk capsD (fun _ => rfl) I hfp) hr (loks D) (pv 4))) (pe_op op_rep (pe_lst (pa_cons pe_str pa_nil)) pe_int) (nomark _))
    (pe_one (pe_cmpR (op_eqD hr.units) (pe_lcI (own := [("_law_ask", 4)]) (g := gName 4) (tt := tYes) (te := fun σ => tGive (clD P w K mg base f c A outer s H0 E) (kM (XD P w K mg base f c A outer s H0 E) K CW CT CM (C 3)) (fun _ => [0, 1].map (slotAt σ)) (TTw C) (tVar 4)) rfl scD0.nd (pi_list (pv 3)) (blkOk_by (own := [("_law_ask", 4)]) (N := nDo) (sc := defScope sDoors) (by decide +kernel)) (fun _ _ _ _ _ => pg_name (i := 4) scD0.nd rfl (Or.inl rfl)) (fun _ _ _ _ _ => pts_nil) (fun σ pins s' H' C' cl' fp I hfp => pe_give G (by rfl) (cellC_blk capsD (fun _ => rfl) I hfp) hr (lokm D) (pv 4))) (pe_op op_rep (pe_lst (pa_cons pe_str pa_nil)) pe_int) (nomark _))))), ?_⟩
  rintro D0 σ H ⟨l, vs, hσ, hl, pd, tb, l2', vs2, rfl, nl, fs, ex, h2, pd2⟩ q
  have len2 : vs2.length = 6 := Paired.length pd2
  have len3 : vs.length = 5 := Paired.length pd
  refine ⟨_, rfl, l2', rfl, ⟨_, SqL.of h2⟩, fun D hD => lc_list (K := K) (a := l2') (xs := vs2) (fun i H' => H' D = some (.lst (reps i "space")) ∧ Same H H') ⟨upd_same, same_new hD⟩ (fun i H' _ h => SqL.of (h.2 _ _ h2)) ?_ ?_⟩
  · rintro i y H1 hy ⟨h3, sm⟩
    obtain ⟨k, hk, hla⟩ := pd_at pd2 hy
    have hkm := List.mem_of_getElem? hk
    obtain ⟨j, hj, ek⟩ := kit_mem hkm
    have hi : i < 6 := by
      have := (List.getElem?_eq_some_iff.mp hy).1
      omega
    refine ⟨rfl, _, rfl, _, rfl, k, hkm, fun d => ?_, LamAt.ext hla (ExtN.of sm), fun Q2 E2 q1 q2 => ?_⟩
    · subst ek
      show cloFrom _ (lScope (eD j)).names [] = cloFrom _ (lScope (eD 0)).names []
      rw [namesD j (by omega)]
    · subst ek
      have e1 := ex.trans (ExtN.of sm)
      refine ⟨x, dx, l1, l2, a, z, mo, B, v, rfl, W.ext e1, (o.ext e1).at, fun H2 s2 => q2 2 H2 ⟨_, s2 _ _ h3, small1000 (by rw [reps, List.length_replicate]; omega), ?_, same_mut hD (sm.trans s2)⟩⟩
      rw [upd_same]
      show some (HO.lst (List.replicate i (V.str "space") ++ [.str "space"])) = some (HO.lst (List.replicate (i + 1) (V.str "space")))
      rw [List.replicate_succ']
  · rintro H1 ⟨h3, sm⟩
    rw [len2] at h3
    refine ⟨by show 1 ≤ sizeLine; decide, fun p1 hp1 => ?_⟩
    have s1 := same_new (o := HO.lst [V.str "space"]) hp1
    refine ⟨p1, _, _, rfl, rfl, upd_same, by decide, by decide, by show 1 * 6 ≤ sizeLine; decide, fun p2 hp2 => ?_⟩
    have s2 := same_new (o := HO.lst (List.replicate (Int.toNat 6) [V.str "space"]).flatten) hp2
    refine ⟨.list (List.replicate 6 (.str "space")), .list (List.replicate 6 (.str "space")), reps_dp (s2 _ _ (s1 _ _ h3)), reps_dp upd_same, by decide +kernel, by decide +kernel, _, rfl, iteT' (by decide +kernel) ?_⟩
    have s3 := sm.trans (s1.trans s2)
    have hl3 := s3 _ _ hl
    have pd3 := lams_ext (ExtN.of s3) pd
    have tb3 := tb.ext s3
    have ex3 := ex.trans (ExtN.of s3)
    generalize hH3 : upd (upd H1 p1 (.lst [V.str "space"])) p2 (.lst (List.replicate (Int.toNat 6) [V.str "space"]).flatten) = H3 at s3 hl3 pd3 tb3 ex3 ⊢
    refine ⟨_, rfl, l, rfl, ⟨_, SqL.of hl3⟩, fun D2 hD2 => lc_list (K := K) (a := l) (xs := vs) (fun i H' => H' D2 = some (.lst (reps i "mount")) ∧ Same H3 H') ⟨upd_same, same_new hD2⟩ (fun i H' _ h => SqL.of (h.2 _ _ hl3)) ?_ ?_⟩
    · rintro i y H4 hy ⟨h4, sm4⟩
      obtain ⟨k, hk, hla⟩ := pd_at pd3 hy
      have hkm := List.mem_of_getElem? hk
      obtain ⟨j, hj6, hj, ek⟩ := kim_mem hkm
      have hi : i < 5 := by
        have := (List.getElem?_eq_some_iff.mp hy).1
        omega
      refine ⟨rfl, _, rfl, _, rfl, k, hkm, fun d => ?_, LamAt.ext hla (ExtN.of sm4), fun Q2 E2 q1 q2 => ?_⟩
      · subst ek
        show cloFrom _ (lScope (eD j)).names [] = cloFrom _ (lScope (eD 0)).names []
        rw [namesD j (by omega)]
      · subst ek
        have e1 := ex3.trans (ExtN.of sm4)
        refine ⟨x, dx, l1, l2, a, z, mo, B, v, rfl, W.ext e1, (o.ext e1).at, fun H2 s2 => q2 3 H2 ⟨_, s2 _ _ h4, small1000 (by rw [reps, List.length_replicate]; omega), ?_, same_mut hD2 (sm4.trans s2)⟩⟩
        rw [upd_same]
        show some (HO.lst (List.replicate i (V.str "mount") ++ [.str "mount"])) = some (HO.lst (List.replicate (i + 1) (V.str "mount")))
        rw [List.replicate_succ']
    · rintro H4 ⟨h4, sm4⟩
      rw [len3] at h4
      refine ⟨by show 1 ≤ sizeLine; decide, fun p3 hp3 => ?_⟩
      have s5 := same_new (o := HO.lst [V.str "mount"]) hp3
      refine ⟨p3, _, _, rfl, rfl, upd_same, by decide, by decide, by show 1 * 5 ≤ sizeLine; decide, fun p4 hp4 => ?_⟩
      have s6 := same_new (o := HO.lst (reps 5 "mount")) hp4
      refine ⟨.list (List.replicate 5 (.str "mount")), .list (List.replicate 5 (.str "mount")), reps_dp (s6 _ _ (s5 _ _ h4)), reps_dp upd_same, by decide +kernel, by decide +kernel, q _ _ ⟨?_, ex3.trans (ExtN.of (sm4.trans (s5.trans s6))), tb3.ext (sm4.trans (s5.trans s6))⟩⟩
      exact congrArg V.bl (by decide +kernel)
theorem ok_doors {oc : Value} {od an : Option Addr} {dV kV doc pm ct : Value} {osl : Array (Option Value)}
    (lk : K.lookup f = some ⟨oc, od, .func (PySem.W.fnOf "_law_doors" "_law_doors" (defArgs sDoors) (defBody sDoors) (defScope sDoors) dV kV doc pm an (.ref c) ct), osl⟩) (hcd : PySem.W.codeIn K (.ref c) "_law_doors" = true)
    (D : Qs P w K mg base CW CT CM (C 2) (C 3)) (G : GOk P w K mg base 4 5 "_law_word" (TTw C)) (L : LmT base mg T c Pt lamQD) :
    FnOk P w K mg base CX0 6 f (PySem.W.fnOf "_law_doors" "_law_doors" (defArgs sDoors) (defBody sDoors) (defScope sDoors) dV kV doc pm an (.ref c) ct) ["_law_world", "_law_odd"] (spDoors T CW CT CM) := by
  refine fn_of lk hcd scD0 (fun vs H Q E h => ?_) (fun A outer s H vs Q E hr h => ?_)
  · obtain ⟨x, dx, l1, l2, a, z, mo, B, v, rfl, _⟩ := h
    rfl
  · obtain ⟨x, dx, l1, l2, a, z, mo, B, v, rfl, W, o, tb, q⟩ := h
    obtain ⟨t, ht, hq⟩ := HoR.cons (hDo0 (P := P) (w := w) (K := K) (f := f) (A := A) (outer := outer) (s := s) (H0 := H) (E := E) (CW := CW) (CT := CT) (CM := CM) (C := C) (x := x) (v := v) L) (HoR.cons (hDo1 L) (HoR.cons (hDo2 L) (HoR.cons (hDo3 L) (HoR.cons (hDo4 L) (HoR.cons (hDo5 L) (HoR.cons (hDo6 L) (HoR.cons (hDo7 L) (HoR.cons (hDo8 L) (HoR.cons (hDo9 L) (HoR.cons (hDo10 L) (hDo11 D G hr W o)))))))))))
    rw [bodyD]
    refine ⟨t, PSs.nox (X := cxOf CX0 P w K mg base nDo "_law_doors" (defScope sDoors) f (.ref c) A outer s H E) ht, hq _ _ _ ⟨rfl, tb, ExtN.refl _⟩ fun u H' hu => ?_⟩
    obtain ⟨rfl, e1, t1⟩ := hu
    exact q H' e1 t1
end
end Tx
set_option Elab.async false
set_option linter.all false
set_option maxRecDepth 100000
set_option maxHeartbeats 8000000
namespace Tx
open PySem PySem.Spec PyProof.Rows L2 Cm Ob
/-- signs that are letters, and no more than m of them -/
def Lets (m : Nat) (z : Str) : Prop := z.length ≤ m ∧ ∀ c ∈ z.cps.toList, signB c = true
theorem lets_name {m : Nat} {z : Str} (h : Lets m z) (h1 : 1 ≤ z.length) (h8 : m ≤ 8) : nameB z = true := by
  unfold nameB
  have a := h.1
  rw [decide_eq_true (by omega : 1 ≤ (z.length : Int)), decide_eq_true (by omega : (z.length : Int) ≤ 8)]
  simp only [Bool.true_and, List.all_eq_true, List.mem_map, id]
  rintro x ⟨c, hc, rfl⟩
  exact h.2 c hc
theorem lets_app {m n : Nat} {a b : Str} (ha : Lets m a) (hb : Lets n b) : Lets (m + n) (a ++ b) := by
  refine ⟨by rw [Str.length_append]; have := ha.1; have := hb.1; omega, fun c hc => ?_⟩
  rw [Str.cps_append, Array.toList_append] at hc
  rcases List.mem_append.mp hc with h | h
  · exact ha.2 c h
  · exact hb.2 c h
theorem lets_join : ∀ {ws : List Str}, (∀ z ∈ ws, Lets 1 z) → Lets ws.length (Txt.join "" ws) := by
  intro ws h
  have e : Txt.join "" ws = Str.join "" ws := StrLaws.glued_eq_join "" ws
  rw [e]
  clear e
  induction ws with
  | nil => exact ⟨Nat.le_refl _, fun c hc => by cases hc⟩
  | cons x r ih =>
    cases r with
    | nil => exact h x List.mem_cons_self
    | cons y r =>
      have h1 := lets_app (m := 1) (n := 0) (h x List.mem_cons_self) (b := "") ⟨Nat.le_refl _, fun c hc => by cases hc⟩
      have h2 := lets_app h1 (ih fun z hz => h z (List.mem_cons_of_mem _ hz))
      have e : 1 + 0 + (y :: r).length = (x :: y :: r).length := by simp only [List.length_cons]; omega
      rw [← e]
      exact h2
theorem scNd : FnScope ["_law_state", "_law_word_here", "_law_k"] ["_law_state"] (defScope sNamed) := ⟨rfl, rfl, rfl, by decide +kernel, rfl, by decide +kernel, by decide +kernel⟩
def spNd : Sp := fun vs H Q _ => ∃ l, vs = [.ref l] ∧ StAt l H ∧ ∀ z H', nameB z = true → z.length ≤ 8 → But l H H' → StAt l H' → Q (.str z) H'
theorem sign_at {j c : Nat} (h : letters.cps.toList[j]? = some c) : signB c = true := decide_eq_true (List.mem_of_getElem? h)
section
variable {P : Program} {w : World} {K : PySem.W.Frag} {mg : Str → Option Value} {base : Heap} {f : Addr} {fd : FuncData}
theorem ok_nd {k : Nat} (F : Fun K "_law_named" "_law_named" sNamed f fd) (B : Bi mg) (Dg : Cl P w K mg base CX0 1 "_law_digit" ["_law_state", "_law_base"] spDigit) : FnOk P w K mg base CX0 (k + 2) f fd ["_law_state"] spNd := by
  refine F.ok scNd (fun vs H Q E h => ?_) (fun cdv A outer s H vs Q E hr h => ?_)
  · obtain ⟨x, rfl, _⟩ := h
    rfl
  · obtain ⟨l, rfl, hS, q⟩ := h
    refine ⟨_, pss_cons (ps_set (i := 1) scNd.nd rfl (.inl rfl) (pe_join pe_str (pe_lc (own := [("_law_k", 2)]) (g := gName 2) (tt := tYes) (by rfl) scNd.nd (pi_range1 (by rfl) B.range (pa_cons (pe_cl Dg hr (by omega) (by rfl) pass0 (pa_cons (pv 0) (pa_cons pe_int pa_nil))) pa_nil)) (blkOk_by (own := [("_law_k", 2)]) (N := ["_law_state", "_law_word_here", "_law_k"]) (sc := defScope sNamed) (by decide +kernel)) (fun _ _ _ _ _ => pg_name (i := 2) scNd.nd rfl (Or.inl rfl)) (fun _ _ _ _ _ => pts_nil)
      (fun _ _ _ _ _ => pe_ix ix_str pe_str (pe_cl Dg hr (by omega) (by rfl) pass0 (pa_cons (pv 0) (pa_cons pe_int pa_nil))) (fun _ _ => rfl)))))
      (pss_one (ps_ret (pe_ix ix_list (pe_lst (pa_cons (pe_op op_add_str (pv 1) pe_str) (pa_cons pe_str (pa_cons pe_str pa_nil)))) (pe_cl Dg hr (by omega) (by rfl) pass0 (pa_cons (pv 0) (pa_cons pe_int pa_nil))) (fun _ _ => rfl)))), ?_⟩
    obtain ⟨st, hl, hst⟩ := hS
    refine ⟨⟨_, rfl⟩, _, rfl, l, st, _, rfl, hl, hst, by decide, by decide, fun d st1 H1 hd hst1 hl1 bt1 => ?_⟩
    have bs1 : Bs H l H1 := ⟨⟨st1, hl1, hst1⟩, bt1⟩
    refine ⟨d, rfl, by omega, by omega, fun D hD => lc_range (lo := 0) (n := (d : Int).toNat) (fun i H2 => Bs H l H2 ∧ ∃ ws : List Str, H2 D = some (.lst (ws.map V.str)) ∧ ws.length = i ∧ ∀ z ∈ ws, Lets 1 z) ⟨bs1.same (same_new hD), [], upd_same, rfl, fun _ h => nomatch h⟩ ?_ ?_⟩
    · rintro i H2 hi ⟨b2, ws, hw, hlen, hsh⟩
      obtain ⟨st2, hl2, hst2⟩ := b2.st
      refine ⟨rfl, _, rfl, l, st2, _, rfl, hl2, hst2, by decide, by decide, fun j st3 H3 hj hst3 hl3 bt3 => ?_⟩
      have nDl : D ≠ l := (ne_of_none hl1 hD).symm
      obtain ⟨c, hc⟩ : ∃ c, letters.cps.toList[j]? = some c := by
        have e : letters.cps.toList.length = 26 := by decide +kernel
        exact ⟨_, List.getElem?_eq_getElem (by omega)⟩
      refine ⟨letters, j, c, rfl, rfl, by decide +kernel, atI_nat hc, _, bt3 _ _ nDl hw, small1000 (by rw [List.length_map]; omega), ⟨⟨st3, by rw [upd_ne nDl.symm]; exact hl3, hst3⟩, ?_⟩, ws ++ [⟨#[c]⟩], ?_, by rw [List.length_append, hlen]; rfl, ?_⟩
      · intro b o nb hb
        have z : H1 b = some o := bt1 b o nb hb
        rw [upd_ne (ne_of_none z hD)]
        exact bt3 b o nb (b2.but b o nb hb)
      · rw [upd_same, List.map_append]
        rfl
      · intro z hz
        rcases List.mem_append.mp hz with h | h
        · exact hsh z h
        · rw [List.mem_singleton] at h
          rw [h]
          exact ⟨Nat.le_refl _, fun x hx => by
            have : x = c := by simpa using hx
            rw [this]
            exact sign_at hc⟩
    · rintro H2 ⟨b2, ws, hw, hlen, hsh⟩
      have hj := lets_join hsh
      have hd' : ws.length < 7 := by
        have z : (d : Int) < 7 := hd
        omega
      have e0 : ("" : Str).length = 0 := rfl
      have hs : (ws.map (·.length)).sum ≤ 1000 := by
        have : ∀ (us : List Str), (∀ z ∈ us, Lets 1 z) → (us.map (·.length)).sum ≤ us.length := fun us hu => by
          induction us with
          | nil => exact Nat.le_refl _
          | cons x r ih =>
            have a := (hu x List.mem_cons_self).1
            have b := ih fun z hz => hu z (List.mem_cons_of_mem _ hz)
            rw [List.map_cons, List.sum_cons, List.length_cons]
            omega
        have := this ws hsh
        omega
      refine ⟨_, D, ws, rfl, rfl, .inl (SqL.of hw), by rw [e0]; omega, ?_⟩
      have hj1 := hj.1
      obtain ⟨st2, hl2, hst2⟩ := b2.st
      refine ⟨_, rfl, _, _, rfl, rfl, Nat.le_of_lt (small1000 (by show (Txt.join "" ws).length + 1 ≤ 1000; omega)), by show 3 ≤ sizeLine; decide, fun pl hpl => ?_⟩
      have sl := same_new (o := HO.lst [V.str (Txt.join "" ws ++ "q"), .str "a", .str "zzzzzzzz"]) hpl
      refine ⟨_, rfl, l, st2, _, rfl, sl _ _ hl2, hst2, by decide, by decide, fun j st3 H3 hj3 hst3 hl3 bt3 => ?_⟩
      have npl : pl ≠ l := Ne.symm (ne_of_none hl2 hpl)
      have hj' : j < 3 := by
        have z : (j : Int) < 3 := hj3
        omega
      have hq : Lets 1 "q" := ⟨Nat.le_refl _, by decide +kernel⟩
      have l0 := lets_app hj hq
      obtain ⟨z, hz, hn, h8⟩ : ∃ z : Str, [V.str (Txt.join "" ws ++ "q"), .str "a", .str "zzzzzzzz"][j]? = some (.str z) ∧ nameB z = true ∧ z.length ≤ 8 := by
        match j, hj' with
        | 0, _ => exact ⟨_, rfl, lets_name l0 (by rw [Str.length_append]; show 1 ≤ _ + 1; omega) (by omega), by have := l0.1; omega⟩
        | 1, _ => exact ⟨_, rfl, by decide +kernel, by decide +kernel⟩
        | 2, _ => exact ⟨_, rfl, by decide +kernel, by decide +kernel⟩
      exact ⟨pl, _, j, _, rfl, rfl, SqL.of (bt3 pl _ npl upd_same), atI_nat hz, q z H3 hn h8 (b2.but.trans ((Same.but l sl).trans bt3)) ⟨st3, hl3, hst3⟩⟩
end
end Tx
set_option Elab.async false
set_option linter.all false
set_option maxRecDepth 100000
set_option maxHeartbeats 4000000
namespace Tx
open PySem PySem.Spec PyProof.Rows L2 Cm Ob
section
variable {C : Addr} {H : Hp} {kvs more : List (Key × V)} {es ms : List (Str × Bool)} {z : Str} {b : Bool} {v : V}
theorem ens_at (h : EnsAt C H kvs es) {kv : Key × V} (hk : kv ∈ kvs) : ∃ e ∈ es, EnAt C H kv e := by
  obtain ⟨i, hi⟩ := List.getElem?_of_mem hk
  have hl : i < es.length := by
    rw [← h.1]
    exact (List.getElem?_eq_some_iff.mp hi).1
  exact ⟨es[i], List.getElem_mem hl, h.2 i _ _ hi (List.getElem?_eq_getElem hl)⟩
theorem ens_of (h : EnsAt C H kvs es) {e : Str × Bool} (he : e ∈ es) : ∃ kv ∈ kvs, EnAt C H kv e := by
  obtain ⟨i, hi⟩ := List.getElem?_of_mem he
  have hl : i < kvs.length := by
    rw [h.1]
    exact (List.getElem?_eq_some_iff.mp hi).1
  exact ⟨kvs[i], List.getElem_mem hl, h.2 i _ _ (List.getElem?_eq_getElem hl) hi⟩
theorem ens_nd (h : EnsAt C H kvs es) {d : Addr} (hd : H d = none) : ∀ kv ∈ kvs, kv.2 ≠ .ref d := fun kv hk z => by
  obtain ⟨e, _, _, _, a, e3, e4⟩ := ens_at h hk
  rw [e3] at z
  cases z
  rcases e4 with ⟨_, _, _, q⟩ | ⟨_, _, q⟩ <;> (rw [hd] at q; cases q)
theorem ens_key (h : EnsAt C H kvs es) : (∃ e ∈ es, e.1 = z) ↔ (Sum.inr z : Key) ∈ kvs.map Prod.fst := by
  constructor
  · rintro ⟨e, he, rfl⟩
    obtain ⟨kv, hk, e1, _⟩ := ens_of h he
    exact List.mem_map.mpr ⟨kv, hk, e1⟩
  · intro hm
    obtain ⟨kv, hk, e⟩ := List.mem_map.mp hm
    obtain ⟨e', he, e1, _⟩ := ens_at h hk
    rw [e] at e1
    exact ⟨e', he, (Sum.inr.inj e1).symm⟩
theorem ens_put (h : EnsAt C H kvs es) (n : EnAt C H (Sum.inr z, v) (z, b)) : ∃ es', EnsAt C H (putK kvs (Sum.inr z) v) es' ∧ (∀ e ∈ es', e ∈ es ∨ e = (z, b)) ∧ (z, b) ∈ es' ∧ ∀ e ∈ es, ∃ e' ∈ es', e'.1 = e.1 := by
  unfold putK
  cases ha : kvs.any fun kv => decide (kv.1 = (Sum.inr z : Key)) with
  | true =>
    rw [if_pos rfl]
    refine ⟨es.map fun e => if e.1 = z then (z, b) else e, ⟨by rw [List.length_map, List.length_map]; exact h.1, fun i kv e h1 h2 => ?_⟩, fun e he => ?_, ?_, fun e he => ?_⟩
    · rw [List.getElem?_map] at h1 h2
      cases q1 : kvs[i]? with
      | none => rw [q1] at h1; cases h1
      | some kv0 =>
        cases q2 : es[i]? with
        | none => rw [q2] at h2; cases h2
        | some e0 =>
          rw [q1] at h1
          rw [q2] at h2
          have n0 := h.2 i _ _ q1 q2
          have h1 := Option.some.inj h1
          have h2 := Option.some.inj h2
          dsimp only at h1 h2
          by_cases e : e0.1 = z
          · rw [if_pos (by rw [n0.1, e])] at h1
            rw [if_pos e] at h2
            rw [← h1, ← h2, n0.1, e]
            exact n
          · rw [if_neg (fun q => e (by rw [n0.1] at q; exact Sum.inr.inj q))] at h1
            rw [if_neg e] at h2
            rw [← h1, ← h2]
            exact n0
    · obtain ⟨e0, h0, rfl⟩ := List.mem_map.mp he
      by_cases e : e0.1 = z
      · rw [if_pos e]
        exact .inr rfl
      · rw [if_neg e]
        exact .inl h0
    · obtain ⟨kv, hk, e⟩ := List.any_eq_true.mp ha
      have e : kv.1 = (Sum.inr z : Key) := of_decide_eq_true e
      obtain ⟨e0, h0, n0⟩ := ens_at h hk
      have ez : e0.1 = z := by
        have := n0.1
        rw [e] at this
        exact (Sum.inr.inj this).symm
      exact List.mem_map.mpr ⟨e0, h0, by rw [if_pos ez]⟩
    · refine ⟨_, List.mem_map.mpr ⟨e, he, rfl⟩, ?_⟩
      by_cases q : e.1 = z
      · rw [if_pos q]
        exact q.symm
      · rw [if_neg q]
  | false =>
    rw [if_neg (by simp)]
    refine ⟨es ++ [(z, b)], ⟨by rw [List.length_append, List.length_append, h.1]; rfl, fun i kv e h1 h2 => ?_⟩, fun e he => ?_, by simp, fun e he => ⟨e, List.mem_append_left _ he, rfl⟩⟩
    · by_cases hi : i < kvs.length
      · rw [List.getElem?_append_left hi] at h1
        rw [List.getElem?_append_left (by rw [← h.1]; exact hi)] at h2
        exact h.2 i _ _ h1 h2
      · rw [List.getElem?_append_right (by omega)] at h1
        rw [List.getElem?_append_right (by rw [← h.1]; omega)] at h2
        rw [← h.1] at h2
        cases q : i - kvs.length with
        | zero =>
          rw [q] at h1 h2
          cases h1
          cases h2
          exact n
        | succ m =>
          rw [q] at h1
          cases h1
    · rcases List.mem_append.mp he with q | q
      · exact .inl q
      · exact .inr (List.mem_singleton.mp q)
end
theorem len_put {kvs : List (Key × V)} {k : Key} {v : V} : kvs.length ≤ (putK kvs k v).length := by
  unfold putK
  split
  · rw [List.length_map]
    exact Nat.le_refl _
  · rw [List.length_append]
    exact Nat.le_add_right _ _
theorem len_merge : ∀ (more kvs : List (Key × V)), kvs.length ≤ (mergeK kvs more).length
  | [], kvs => Nat.le_refl _
  | kv :: r, kvs => Nat.le_trans len_put (len_merge r (putK kvs kv.1 kv.2))
theorem put_pos {kvs : List (Key × V)} {k : Key} {v : V} : 1 ≤ (putK kvs k v).length := by
  unfold putK
  cases ha : kvs.any fun kv => decide (kv.1 = k) with
  | true =>
    rw [if_pos rfl, List.length_map]
    cases kvs with
    | nil => cases ha
    | cons a r => exact Nat.succ_le_succ (Nat.zero_le _)
  | false =>
    rw [if_neg (by simp), List.length_append]
    exact Nat.le_add_left _ _
theorem ens_merge {C : Addr} {H : Hp} : ∀ (more : List (Key × V)) (ms : List (Str × Bool)) (kvs : List (Key × V)) (es : List (Str × Bool)), EnsAt C H more ms → EnsAt C H kvs es → ∃ es', EnsAt C H (mergeK kvs more) es' ∧ (∀ e ∈ es', e ∈ es ∨ e ∈ ms) ∧ (∀ e ∈ es, ∃ e' ∈ es', e'.1 = e.1) ∧ ∀ m ∈ ms, ∃ e' ∈ es', e'.1 = m.1
  | [], ms, kvs, es, hm, h => by
    have : ms = [] := List.eq_nil_of_length_eq_zero hm.1.symm
    subst this
    exact ⟨es, h, fun e he => .inl he, fun e he => ⟨e, he, rfl⟩, fun m hm => by cases hm⟩
  | kv :: r, [], kvs, es, hm, h => by cases hm.1
  | kv :: r, m :: ms, kvs, es, hm, h => by
    have n0 : EnAt C H kv m := hm.2 0 kv m rfl rfl
    have hr : EnsAt C H r ms := ⟨Nat.succ.inj hm.1, fun i kv' e h1 h2 => hm.2 (i + 1) kv' e h1 h2⟩
    obtain ⟨k, v⟩ := kv
    obtain ⟨z, b⟩ := m
    have ek : k = Sum.inr z := n0.1
    subst ek
    obtain ⟨es1, a1, a2, a3, a4⟩ := ens_put h n0
    obtain ⟨es2, b1, b2, b3, b4⟩ := ens_merge r ms _ es1 hr a1
    refine ⟨es2, b1, fun e he => ?_, fun e he => ?_, fun m hm => ?_⟩
    · rcases b2 e he with q | q
      · rcases a2 e q with q | q
        · exact .inl q
        · exact .inr (by rw [q]; exact List.mem_cons_self)
      · exact .inr (List.mem_cons_of_mem _ q)
    · obtain ⟨e1, c1, c2⟩ := a4 e he
      obtain ⟨e2, d1, d2⟩ := b3 e1 c1
      exact ⟨e2, d1, d2.trans c2⟩
    · rcases List.mem_cons.mp hm with q | q
      · obtain ⟨e2, d1, d2⟩ := b3 _ a3
        exact ⟨e2, d1, by rw [d2, q]⟩
      · exact b4 m q
/-- a dict of names and trees that is refused for an entry -/
theorem trs_bad {K : PySem.W.Frag} {C : Addr} {H : Hp} {d : Addr} {kvs : List (Key × V)} {es : List (Str × Bool)} (h : H d = some (.dK kvs)) (p : EnsAt C H kvs es) (l : kvs.length ≤ 100) (nd : ∀ kv ∈ kvs, kv.2 ≠ .ref d) (bad : (∃ e ∈ es, enB e = false) ∨ kvs.length = 0 ∨ 8 < kvs.length) : TrsAt K C H (.ref d) false := by
  have t := TrsAt.dic (K := K) h p l nd
  have e : (decide (1 ≤ (kvs.length : Int)) && (decide ((kvs.length : Int) ≤ 8) && (es.map enB).all id)) = false := by
    rcases bad with ⟨e, he, hb⟩ | hb | hb
    · have : (es.map enB).all id = false := by
        rw [List.all_eq_false]
        exact ⟨false, List.mem_map.mpr ⟨e, he, hb⟩, by simp⟩
      rw [this]
      simp
    · rw [decide_eq_false (by omega : ¬ 1 ≤ (kvs.length : Int))]
      rfl
    · rw [decide_eq_false (by omega : ¬ (kvs.length : Int) ≤ 8)]
      simp
  rw [e] at t
  exact t
end Tx
set_option Elab.async false
set_option linter.all false
set_option maxRecDepth 100000
set_option maxHeartbeats 4000000
/-! d | e, both dicts with texts or whole numbers as keys -/
namespace Io
open PySem PySem.Spec PyProof.Rows L2
section
variable {prog : Program} {w : World} {K : Type} [DecidableEq K]
theorem meets_or (knd : KeyKind prog w K) (d o : Addr) (hdS : (d == sysModules) = false) (hoS : (o == sysModules) = false) :
    MeetsIn prog w (Builtin.«dict.__or__» ⟨[.ref d, .ref o], []⟩) (fun _ R s => ∃ kvs more, s.heap.DictOf knd d kvs ∧ s.heap.DictOf knd o more ∧ kvs.length + more.length ≤ sizeLine ∧
      ∀ h', h'.DictOf knd s.heap.objs.size (merged kvs more) → (∀ b o, s.heap.get? b = some o → h'.get? b = some o) → R (.ok (.ret (.ref s.heap.objs.size))) { s with heap := h' }) :=
  .of_wp fun A R s ⟨kvs, more, hd, ho, hsz, h⟩ => by
    unfold Builtin.«dict.__or__» Builtin.Dict.dictSlotArgs
    refine wpAny_bind (wpAny_bind (wpAny_notOrdered_dict hd.typeIs ?_))
    refine wpAny_bind ?_
    show wpAny _ _ (pure (Value.ref d, [Value.ref o])) _ _ s
    refine wpAny_pure (wpAny_pure (wpAny_bind ?_))
    obtain ⟨od, es, ep, hod, hc, hdat, hk, hp, hn⟩ := id hd
    have hes : es.size ≤ sizeLine + 1 := by
      have e1 := hp.length
      have e2 : es.toList.length = es.size := by simp
      omega
    have fin : ∀ es' : Array DictEntry, es' = es → wpAny (model prog w) A.in1 (Builtin.Dict.addrOf (Value.ref s.heap.objs.size) >>= fun a => holding [Value.ref s.heap.objs.size] (Builtin.Dict.updateFrom "dict.__or__" a (.ref o) [] (Value.ref s.heap.objs.size)))
        (fun fin s' => ∃ v, fin = .done (.ret v) ∧ R (.ok (.ret v)) s') (fun e s' => R (.error e) s') { s with heap := s.heap.push { cls := .type "dict", data := .dict es' } } := by
      rintro es' rfl
      have hnew : Heap.DictOf knd (s.heap.push { cls := .type "dict", data := .dict es' }) s.heap.objs.size kvs := ⟨_, es', 0, Heap.get?_push_size _ rfl, ⟨rfl, rfl, rfl⟩, rfl, hk, hp, hn⟩
      have ho' : Heap.DictOf knd (s.heap.push { cls := .type "dict", data := .dict es' }) o more := ho.push _
      have hno : s.heap.objs.size ≠ o := by
        obtain ⟨oo, _, _, hoo, _⟩ := ho
        exact Ne.symm (Nat.ne_of_lt (Heap.lt_size hoo))
      refine wpAny_bind (wpAny_pure ?_)
      refine wpAny_holding ?_
      unfold Builtin.Dict.updateFrom
      refine wpAny_bind (wpAny_typeOf ho'.typeIs ?_)
      rw [if_neg (by decide)]
      refine wpAny_bind ?_
      unfold Builtin.Dict.merge
      refine wpAny_bind ?_
      unfold Builtin.Dict.readDirectly
      refine wpAny_bind (wpAny_isInstance ho'.typeIs isSubtype_dict_dict ?_)
      simp only [Bool.not_true, Bool.false_eq_true, if_false]
      refine wpAny_bind (wpAny_specialOf ho'.typeIs F.slot_dict_iter.lookup (wpAny_pure ?_))
      simp only [beq_self_eq_true, if_true]
      refine wpAny_bind (wpAny_pure ?_)
      refine wpAny_mergeDict (hsz := hsz) hno hoS hnew ho' fun h' hd' ho' hs' => ?_
      show wpAny _ _ (Builtin.Dict.addKeywords s.heap.objs.size [] >>= _) _ _ _
      refine wpAny_bind (wpAny_pure (wpAny_pure ⟨.ref s.heap.objs.size, rfl, h h' hd' fun b o' e => ?_⟩))
      exact hs'.extBut b o' (Nat.ne_of_lt (Heap.lt_size e)) (Heap.get?_push_of_some _ e)
    unfold andM
    refine wpAny_bind (wpAny_isInstance hd.typeIs isSubtype_dict_dict ?_)
    show wpAny _ _ (isInstance (Value.ref o) (Value.type "dict")) _ _ s
    refine wpAny_isInstance ho.typeIs isSubtype_dict_dict ?_
    rw [if_neg (by decide)]
    refine wpAny_bind ?_
    unfold Builtin.Dict.copyOf
    refine wpAny_bind (wpAny_pure ?_)
    unfold Builtin.Dict.showsAll
    rw [if_neg (by rw [hdS]; exact Bool.false_ne_true)]
    refine wpAny_bind (wpAny_pure ?_)
    refine wpAny_bind (wpAny_dictEntries hod hdat ?_)
    by_cases hemp : es.isEmpty = true
    · rw [if_pos hemp]
      refine wpAny_bind (wpAny_rule (wpAny_newObj_type ?_))
      exact fin #[] (Array.isEmpty_iff.mp hemp).symm
    · rw [if_neg hemp]
      refine wpAny_bind ?_
      · unfold Builtin.Dict.readDirectly
        refine wpAny_bind (wpAny_isInstance hd.typeIs isSubtype_dict_dict ?_)
        simp only [Bool.not_true, Bool.false_eq_true, if_false]
        refine wpAny_bind (wpAny_specialOf hd.typeIs F.slot_dict_iter.lookup (wpAny_pure ?_))
        simp only [beq_self_eq_true, if_true]
        refine wpAny_bind (wpAny_entriesForEmpty (knd := knd) hod hdat hk (wpAny_newObj_type ?_ hes))
        exact fin es rfl
end
/-- d | e: a new dict -/
def rOrD : R2 := fun x y H Q => ∃ d e kvs more, x = .ref d ∧ y = .ref e ∧ H d = some (.dK kvs) ∧ H e = some (.dK more) ∧ kvs.length + more.length ≤ 1000 ∧ ∀ p, H p = none → Q (.ref p) (upd H p (.dK (mergeK kvs more)))
theorem op_orD {X : Cx} : OpR X (binaryOp .BitOr) rOrD := by
  intro pins s σ H x y v u Q I rx ry h
  obtain ⟨d, e, kvs, more, rfl, rfl, hd, he, hz, q⟩ := h
  cases rx
  cases ry
  obtain ⟨z1, lo1, vs, rel, dd⟩ := dk_of I.hok hd
  obtain ⟨z2, lo2, rs, rel2, de⟩ := dk_of I.hok he
  have hsz : vs.length + rs.length ≤ sizeLine := by
    rw [← rel.length, ← rel2.length, sizeLine_eq]
    omega
  have hl : (mergeK kvs more).length ≤ sizeLine := by
    refine Nat.le_trans (length_mergeK more kvs) ?_
    rw [sizeLine_eq]
    omega
  refine wpAny_binaryOp_same dd.typeIs de.typeIs PySem.F.fills_dict_or PySem.F.slot_dict_or (call_meetsIn PySem.F.slot_dict_or dd.typeIs PySem.F.entry_dict_or (PySem.F.args_dict_or_2 _ _) (meets_or (mixKind X.prog X.w) d e lo1 lo2) ⟨vs, rs, dd, de, hsz, fun h' hd' hk' => ?_⟩)
  have hm : (s.heap.objs.size == sysModules) = false := beq_eq_false_iff_ne.mpr (Nat.ne_of_gt I.big)
  exact ⟨(fun z => nomatch z), .ref s.heap.objs.size, _, I.laid (t' := s.toks) hk' (Nat.le_refl _) (show ObjOk X.prog X.w _ _ _ (.dK (mergeK kvs more)) from ⟨hl, hm, _, KV.merge rel2 rel, hd'⟩), rfl, q _ (I.hok.fresh (Nat.le_refl _))⟩
end Io
set_option Elab.async false
set_option linter.all false
set_option maxRecDepth 100000
set_option maxHeartbeats 16000000
namespace Tx
open PySem PySem.Spec PyProof.Rows L2 Cm Ob LmB NdefX LamX
/-- all stays but tables and the draws' list -/
def Kp (H H' : Hp) : Prop := ∀ b o, H b = some o → (∀ ps, o ≠ .tbl ps) → (∀ st, StOk st → o ≠ .lst st) → H' b = some o
theorem Kp.refl (H : Hp) : Kp H H := fun _ _ h _ _ => h
theorem Kp.trans {H H1 H2 : Hp} (a : Kp H H1) (b : Kp H1 H2) : Kp H H2 := fun c o h n m => b c o (a c o h n m) n m
theorem Kp.same {H H' : Hp} (s : Same H H') : Kp H H' := fun c o h _ _ => s c o h
theorem Kp.ext {H H' : Hp} (e : ExtN H H') : Kp H H' := fun c o h n _ => e c o h n
theorem Kp.but {H H' : Hp} {l : Addr} (b : But l H H') (S : StAt l H) : Kp H H' := fun c o h _ n => by
  obtain ⟨st, hl, ok⟩ := S
  exact b c o (ne_of h hl (n st ok)) h
/-- objects that are no state's list stay -/
theorem sbut' {H H' : Hp} {l : Addr} (b : But l H H') (S : StAt l H) {e : Addr} {o : HO} (h : H e = some o) (n : ∀ st, StOk st → o ≠ .lst st) : H' e = some o := by
  obtain ⟨st, hl, ok⟩ := S
  exact b e o (ne_of h hl (n st ok)) h
theorem nil_st {st : List V} (ok : StOk st) : HO.lst [] ≠ .lst st := by
  rcases ok with ⟨c, rfl⟩ | ⟨a, b, c, rfl⟩ <;> (intro z; cases z)
theorem strs_st {zs : List Str} (h : zs ≠ []) {st : List V} (ok : StOk st) : HO.lst (zs.map V.str) ≠ .lst st := by
  cases zs with
  | nil => exact absurd rfl h
  | cons z r => rcases ok with ⟨c, rfl⟩ | ⟨a, b, c, rfl⟩ <;> (intro z; cases z)
theorem WAt.kp {H H' : Hp} {CW CT CM : Addr} {a : List (Key × V)} {z : Str} {mo : Int} {x dx l1 l2 : Addr} {A : Ad} (t : WAt H CW CT CM a z mo x dx l1 l2 A) (s : Kp H H') : WAt H' CW CT CM a z mo x dx l1 l2 A :=
  ⟨s _ _ t.hx (by intro _ z; cases z) (by intro _ _ z; cases z), s _ _ t.h1 (by intro _ z; cases z) (fun _ ok => nil_st ok), s _ _ t.h2 (by intro _ z; cases z) (fun _ ok => nil_st ok),
    s _ _ t.t.hT (by intro _ z; cases z) (by intro _ _ z; cases z), s _ _ t.t.tr (by intro _ z; cases z) (by intro _ _ z; cases z), s _ _ t.t.kn (by intro _ z; cases z) (by intro _ _ z; cases z), s _ _ t.t.pl (by intro _ z; cases z) (by intro _ _ z; cases z), s _ _ t.t.tp (by intro _ z; cases z) (by intro _ _ z; cases z), s _ _ t.t.ow (by intro _ z; cases z) (by intro _ _ z; cases z), s _ _ t.t.ms (by intro _ z; cases z) (by intro _ _ z; cases z), s _ _ t.t.mb (by intro _ z; cases z) (by intro _ _ z; cases z), s _ _ t.t.bh (by intro _ z; cases z) (by intro _ _ z; cases z), s _ _ t.t.ct (by intro _ z; cases z) (by intro _ _ z; cases z), s _ _ t.t.hm (by intro _ z; cases z) (by intro _ _ z; cases z), s _ _ t.t.e (by intro _ z; cases z) (by intro _ _ z; cases z), s _ _ t.t.rt (by intro _ z; cases z) (by intro _ _ z; cases z)⟩
theorem EnAt.kp {C : Addr} {H H' : Hp} {kv : Key × V} {e : Str × Bool} (h : EnAt C H kv e) (s : Kp H H') : EnAt C H' kv e := by
  obtain ⟨h1, h2, a, h3, h4⟩ := h
  refine ⟨h1, h2, a, h3, ?_⟩
  rcases h4 with ⟨x, dt, ft, y⟩ | ⟨x, xs, y⟩
  · exact .inl ⟨x, dt, ft, s _ _ y (by intro _ z; cases z) (by intro _ _ z; cases z)⟩
  · exact .inr ⟨x, xs, s _ _ y (by intro _ z; cases z) (by intro _ _ z; cases z)⟩
theorem EnsAt.kp {C : Addr} {H H' : Hp} {kvs : List (Key × V)} {es : List (Str × Bool)} (h : EnsAt C H kvs es) (s : Kp H H') : EnsAt C H' kvs es := ⟨h.1, fun i kv e h1 h2 => (h.2 i kv e h1 h2).kp s⟩
theorem WTr.kp {H H' : Hp} {C d : Addr} {kvs : List (Key × V)} {es : List (Str × Bool)} (h : WTr H C d kvs es) (s : Kp H H') : WTr H' C d kvs es := ⟨s _ _ h.hd (by intro _ z; cases z) (by intro _ _ z; cases z), h.en.kp s, h.good, h.one, h.few, h.nd⟩
theorem tabs_but {T : List (Addr × Str)} {H H' : Hp} {l : Addr} (t : Tabs T H) (S : StAt l H) (b : But l H H') : Tabs T H' := fun p hp => by
  obtain ⟨st, hl, _⟩ := S
  obtain ⟨ps, h1, h2, h3⟩ := t p hp
  refine ⟨ps, b _ _ (fun z => by rw [z, hl] at h1; cases h1) h1, h2, fun pos cv hc => ?_⟩
  obtain ⟨c, e1, e2⟩ := h3 pos cv hc
  refine ⟨c, e1, b _ _ (fun z => ?_) e2⟩
  rw [z, hl] at e2
  cases (show HO.lst st = HO.ext _ from Option.some.inj e2)
/-- the draws' list, and what stays since the start -/
structure Sv (T : List (Addr × Str)) (H0 : Hp) (l : Addr) (H : Hp) : Prop where
  st : StAt l H
  fs : Fsh H0 l
  ex : ExtN H0 H
  tb : Tabs T H
section
variable {T : List (Addr × Str)} {H0 H H' : Hp} {l : Addr}
theorem Sv.same (h : Sv T H0 l H) (s : Same H H') : Sv T H0 l H' := ⟨h.st.same s, h.fs, h.ex.trans (ExtN.of s), h.tb.ext s⟩
theorem Sv.but (h : Sv T H0 l H) (b : But l H H') (S : StAt l H') : Sv T H0 l H' := by
  refine ⟨S, h.fs, fun c o hc n => b c o (fun z => ?_) (h.ex c o hc n), tabs_but h.tb h.st b⟩
  rw [z] at hc
  obtain ⟨ps, e⟩ := h.fs o hc
  exact n ps e
theorem Sv.ext (h : Sv T H0 l H) (e : ExtN H H') (t : Tabs T H') : Sv T H0 l H' := by
  obtain ⟨st, hl, ok⟩ := h.st
  exact ⟨⟨st, e _ _ hl (by intro _ z; cases z), ok⟩, h.fs, h.ex.trans e, t⟩
theorem Sv.upd {p : Addr} {o u : HO} (h : Sv T H0 l H) (f : Fsh H0 p) (hp : H p = some u) (n1 : ∀ ps, u ≠ .tbl ps) (n2 : ∀ st, StOk st → u ≠ .lst st) (n3 : ∀ c q, u ≠ CodeO c q) : Sv T H0 l (L2.upd H p o) := by
  obtain ⟨st, hl, ok⟩ := h.st
  refine ⟨⟨st, by rw [upd_ne (ne_of hl hp (fun z => n2 st ok z.symm))]; exact hl, ok⟩, h.fs, extN_upd h.ex f, fun q hq => ?_⟩
  obtain ⟨ps, h1, h2, h3⟩ := h.tb q hq
  refine ⟨ps, by rw [upd_ne (ne_of h1 hp (fun z => n1 ps z.symm))]; exact h1, h2, fun pos cv hc => ?_⟩
  obtain ⟨c, e1, e2⟩ := h3 pos cv hc
  exact ⟨c, e1, by rw [upd_ne (ne_of e2 hp (fun z => n3 c _ z.symm))]; exact e2⟩
end
end Tx
set_option Elab.async false
set_option linter.all false
set_option maxRecDepth 100000
set_option maxHeartbeats 16000000
namespace Tx
open PySem PySem.Spec PyProof.Rows L2 Cm Ob LmB NdefX LamX
abbrev nLw : List Str := ["_law_script", "_law_k", "_law_state", "_law_names", "_law_trees", "_law_top", "_law_most", "_law_handed", "_law_world", "_law_odd", "_law_nine", "_law_some", "_law_bad", "_law_none", "_law_other", "_law_words", "_law_j", "_law_name", "_law_letter"]
theorem scLw : FnScope nLw ["_law_script"] (defScope sLaw) := ⟨rfl, rfl, rfl, by decide +kernel, rfl, by decide +kernel, by decide +kernel⟩
def stL (i : Nat) : Stmt := (defBody sLaw).getD i (.Pass ⟨0, 0, 0, 0⟩)
theorem bodyLaw : defBody sLaw = [stL 0, stL 1] := rfl
def stT (i : Nat) : Stmt := foB (stL 0) i
abbrev XLw (P : Program) (w : World) (K : PySem.W.Frag) (mg : Str → Option Value) (base : Heap) (f c : Addr) (A : Around) (outer : List Env) (s : Shared) (H0 : Hp) (E : XK) : Cx := (cxOf CX0 P w K mg base nLw "law" (defScope sLaw) f (.ref c) A outer s H0 E).nox
def lamQL : Str := (("law" : Str) ++ ".<locals>.") ++ "<lambda>"
abbrev ps4 : List Str := ["self", "trees", "first", "most"]
structure Lw (P : Program) (w : World) (K : PySem.W.Frag) (mg : Str → Option Value) (base : Heap) (T : List (Addr × Str)) (CW CT CM CR : Addr) (C : Fin 4 → Addr) : Prop where
  B : Bi mg
  cell : Cl P w K mg base CX0 1 "_law_cell_at" ["_law_script", "_law_k"] (spCell K)
  dig : Cl P w K mg base CX0 1 "_law_digit" ["_law_state", "_law_base"] spDigit
  lt : Cl P w K mg base CX0 2 "_law_tree" ["_law_state"] spLT
  named : Cl P w K mg base CX0 2 "_law_named" ["_law_state"] spNd
  doors : Cl P w K mg base CX0 6 "_law_doors" ["_law_world", "_law_odd"] (spDoors T CW CT CM)
  word : GOk P w K mg base 9 10 "_law_word" (TTw C)
  mkR : ∃ f fd, Mk K CR f ∧ FnOk P w K mg base (L2.CX P w) 13 f fd ["self", "top"] (spTree K CR (C 0)) ∧ Binds K fd ["self", "top"] []
  gR : mg "Tree" = some (.ref CR)
  mkW : ∃ f fd ds its, Mk K CW f ∧ FnOk P w K mg base (L2.CX P w) 7 f fd ps4 (spWoI K CW CT CM CR (C 0) (C 1)) ∧ (Binds K fd ps4 ds ∧ Vals [] ds) ∧ KBn K fd ps4 2 ["first"] (fun us ws => us ++ (ws ++ its)) (fun vs zs => vs ++ (zs ++ [.int 1000]))
  gW : mg "World" = some (.ref CW)
  q : Qs P w K mg base CW CT CM (C 2) (C 3)
  shape : Mt P w K mg base 4 CW "shape" ["self"] (spShape CW CT CM)
  past : Mt P w K mg base 1 CW "past" ["self"] (spPast CW CT CM)
  spaces : Mt P w K mg base 1 CW "spaces" ["self"] (spSpaces CW CT CM)
/-- the law's slots -/
abbrev sL (a : Addr) (s1 s2 s3 s4 s5 s6 s7 s8 s9 s10 s11 s12 s13 s14 s15 s16 s17 s18 : Option V) : L2.St := [some (.ref a), s1, s2, s3, s4, s5, s6, s7, s8, s9, s10, s11, s12, s13, s14, s15, s16, s17, s18]
abbrev Slots : Type := Option V × Option V × Option V × Option V × Option V × Option V × Option V × Option V
/-- names drawn -/
def NmOk (zs : List Str) : Prop := ∀ z ∈ zs, nameB z = true ∧ z.length ≤ 8
theorem strs_st' (zs : List Str) {st : List V} (ok : StOk st) : HO.lst (zs.map V.str) ≠ .lst st := by
  cases zs with
  | nil => exact nil_st ok
  | cons z r => exact strs_st (by simp) ok
def TL0 (T : List (Addr × Str)) (H0 : Hp) (a : Addr) : L2.St → Hp → Prop := fun σ H => ∃ s1 s2 s3 s4 s5 s6 s7 s8 s9 s10 s11 s12 s13 s14 s15 s16 s17 s18, σ = sL a s1 s2 s3 s4 s5 s6 s7 s8 s9 s10 s11 s12 s13 s14 s15 s16 s17 s18 ∧ ExtN H0 H ∧ Tabs T H
def TLk (T : List (Addr × Str)) (H0 : Hp) (a : Addr) : L2.St → Hp → Prop := fun σ H => ∃ (k : Nat) (s2 s3 s4 s5 s6 s7 s8 s9 s10 s11 s12 s13 s14 s15 s16 s17 s18 : Option V), σ = sL a (some (.int k)) s2 s3 s4 s5 s6 s7 s8 s9 s10 s11 s12 s13 s14 s15 s16 s17 s18 ∧ ExtN H0 H ∧ Tabs T H
def TL1 (T : List (Addr × Str)) (H0 : Hp) (a : Addr) : L2.St → Hp → Prop := fun σ H => ∃ l s1 s3 s4 s5 s6 s7 s8 s9 s10 s11 s12 s13 s14 s15 s16 s17 s18, σ = sL a s1 (some (.ref l)) s3 s4 s5 s6 s7 s8 s9 s10 s11 s12 s13 s14 s15 s16 s17 s18 ∧ Sv T H0 l H
def TL2 (T : List (Addr × Str)) (H0 : Hp) (a : Addr) : L2.St → Hp → Prop := fun σ H => ∃ l p zs s1 s4 s5 s6 s7 s8 s9 s10 s11 s12 s13 s14 s15 s16 s17 s18, σ = sL a s1 (some (.ref l)) (some (.ref p)) s4 s5 s6 s7 s8 s9 s10 s11 s12 s13 s14 s15 s16 s17 s18 ∧ Sv T H0 l H ∧ H p = some (.lst (zs.map V.str)) ∧ 1 ≤ zs.length ∧ zs.length ≤ 3 ∧ NmOk zs
theorem sqE {K : PySem.W.Frag} {H H' : Hp} {a : Addr} {xs : List V} (e : ExtN H H') (h : SqL K H a xs) : SqL K H' a xs := by
  rcases h with (h | ⟨o, h⟩) | h
  · exact .inl (.inl (e _ _ h (by intro _ z; cases z)))
  · exact .inl (.inr ⟨o, e _ _ h (by intro _ z; cases z)⟩)
  · exact .inr h
section
variable {P : Program} {w : World} {K : PySem.W.Frag} {mg : Str → Option Value} {base : Heap} {f c : Addr} {A : Around} {outer : List Env} {s : Shared} {H0 : Hp} {E : XK} {a CW CT CM CR : Addr} {C : Fin 4 → Addr} {T : List (Addr × Str)} {ns : List Int}
theorem hT0 (D : Lw P w K mg base T CW CT CM CR C) (hr : Room 14 (XLw P w K mg base f c A outer s H0 E).A) (hS : SqL K H0 a (ns.map V.int)) : Ho (XLw P w K mg base f c A outer s H0 E) (stT 0) (TLk T H0 a) (TL1 T H0 a) := by
  refine ⟨_, ps_set (i := 2) scLw.nd rfl (.inr rfl) (pe_lst (pa_cons (pe_op op_add (pe_cl D.cell hr (by decide) (by rfl) pass0 (pa_cons (pv 0) (pa_cons (pv 1) pa_nil))) (pe_op op_mul pe_int (pv 1))) pa_nil)), ?_⟩
  rintro D0 σ H ⟨k, s2, s3, s4, s5, s6, s7, s8, s9, s10, s11, s12, s13, s14, s15, s16, s17, s18, rfl, ex, tb⟩ q
  refine ⟨_, rfl, _, rfl, a, ns, k, rfl, sqE ex hS, fun i _ => ⟨_, rfl, 11, k, rfl, rfl, .inl ⟨by decide, by decide⟩, i, _, rfl, rfl, by show 1 ≤ sizeLine; decide, fun l hl => q _ _ ⟨l, _, _, _, _, _, _, _, _, _, _, _, _, _, _, _, _, _, rfl, ⟨_, upd_same, .inl ⟨_, rfl⟩⟩, fsh_of ex hl, extN_upd ex (fsh_of ex hl), tb.ext (same_new hl)⟩⟩⟩
theorem hT1 (D : Lw P w K mg base T CW CT CM CR C) (hr : Room 14 (XLw P w K mg base f c A outer s H0 E).A) : Ho (XLw P w K mg base f c A outer s H0 E) (stT 1) (TL1 T H0 a) (TL2 T H0 a) := by
  refine ⟨_, ps_setLc (i := 3) (own := [("_law_j", 16)]) (g := gName 16) (tt := tYes) (by rfl) scLw.nd rfl rfl (sw_true rfl rfl rfl (by decide +kernel)) (pi_range1 (by rfl) D.B.range (pa_cons (pe_op op_add pe_int (pe_cl D.dig hr (by decide) (by rfl) pass0 (pa_cons (pv 2) (pa_cons pe_int pa_nil)))) pa_nil)) (blkOk_by (own := [("_law_j", 16)]) (N := nLw) (sc := defScope sLaw) (by decide +kernel)) (fun _ _ _ _ _ => pg_name (i := 16) scLw.nd rfl (Or.inl rfl)) (fun _ _ _ _ _ => pts_nil) (fun _ _ _ _ _ => pe_cl D.named hr (by decide) (by rfl) pass0 (pa_cons (pv 2) pa_nil)), ?_⟩
  rintro D0 σ H ⟨l, s1, s3, s4, s5, s6, s7, s8, s9, s10, s11, s12, s13, s14, s15, s16, s17, s18, rfl, S⟩ q
  obtain ⟨st, hl, ok⟩ := S.st
  refine ⟨_, rfl, l, st, 3, rfl, hl, ok, by decide, by decide, fun d st1 H1 hd ok1 hl1 b1 => ?_⟩
  have S1 := S.but b1 ⟨st1, hl1, ok1⟩
  refine ⟨_, _, rfl, rfl, 1 + d, rfl, by omega, by omega, fun Dc hD => lc_range (lo := 0) (n := ((1 : Int) + d).toNat) (fun i H2 => Sv T H0 l H2 ∧ ∃ zs : List Str, H2 Dc = some (.lst (zs.map V.str)) ∧ zs.length = i ∧ NmOk zs) ⟨S1.same (same_new hD), [], upd_same, rfl, fun _ h => nomatch h⟩ ?_ ?_⟩
  · rintro i H2 hi ⟨S2, zs, hz, hlen, hok⟩
    have hd' : d < 3 := by
      have z : (d : Int) < 3 := hd
      omega
    refine ⟨rfl, _, rfl, l, rfl, S2.st, fun z H3 hn h8 b3 St3 => ⟨_, sbut' b3 S2.st hz (fun _ ok => strs_st' zs ok), small1000 (by rw [List.length_map]; omega), ?_, zs ++ [z], ?_, by rw [List.length_append, hlen]; rfl, ?_⟩⟩
    · exact (S2.but b3 St3).upd (fsh_of S1.ex hD) (sbut' b3 S2.st hz (fun _ ok => strs_st' zs ok)) (by intro _ z; cases z) (fun _ ok => strs_st' zs ok) (fun c q z => by unfold CodeO at z; cases z)
    · rw [upd_same, List.map_append]
      rfl
    · intro y hy
      rcases List.mem_append.mp hy with h | h
      · exact hok y h
      · rw [List.mem_singleton.mp h]
        exact ⟨hn, h8⟩
  · rintro H2 ⟨S2, zs, hz, hlen, hok⟩
    have hd' : d < 3 := by
      have z : (d : Int) < 3 := hd
      omega
    exact q _ _ ⟨l, Dc, zs, _, _, _, _, _, _, _, _, _, _, _, _, _, _, _, _, rfl, S2, hz, by omega, by omega, hok⟩
end
end Tx
set_option Elab.async false
set_option linter.all false
set_option maxRecDepth 100000
set_option maxHeartbeats 16000000
namespace Tx
open PySem PySem.Spec PyProof.Rows L2 Cm Ob LmB NdefX LamX
theorem EnsAt.updl {C : Addr} {H : Hp} {kvs : List (Key × V)} {es : List (Str × Bool)} {D : Addr} {xs : List V} {o : HO} (h : EnsAt C H kvs es) (hD : H D = some (.lst xs)) : EnsAt C (upd H D o) kvs es := ⟨h.1, fun i kv e h1 h2 => by
  obtain ⟨g1, g2, a, g3, g4⟩ := h.2 i kv e h1 h2
  refine ⟨g1, g2, a, g3, ?_⟩
  rcases g4 with ⟨x, dt, ft, y⟩ | ⟨x, ys, y⟩
  · exact .inl ⟨x, dt, ft, by rw [upd_ne (ne_of y hD (by intro z; cases z))]; exact y⟩
  · exact .inr ⟨x, ys, by rw [upd_ne (ne_of y hD (by intro z; cases z))]; exact y⟩⟩
/-- tuples of two at the addresses -/
def Tps (H : Hp) (ps : List Addr) (kvs : List (Key × V)) : Prop := Paired (fun q kv => H q = some (.tup [kV kv.1, kv.2])) ps kvs
theorem Tps.kp {H H' : Hp} (s : Kp H H') : ∀ {ps : List Addr} {kvs : List (Key × V)}, Tps H ps kvs → Tps H' ps kvs
  | _, _, .nil => .nil
  | _, _, .cons a r => .cons (s _ _ a (by intro _ z; cases z) (by intro _ _ z; cases z)) (Tps.kp s r)
theorem Tps.updl {H : Hp} {D : Addr} {xs : List V} {o : HO} (hD : H D = some (.lst xs)) : ∀ {ps : List Addr} {kvs : List (Key × V)}, Tps H ps kvs → Tps (upd H D o) ps kvs
  | _, _, .nil => .nil
  | _, _, .cons a r => .cons (by rw [upd_ne (ne_of a hD (by intro z; cases z))]; exact a) (Tps.updl hD r)
theorem Tps.sq {K : PySem.W.Frag} {H : Hp} : ∀ {ps : List Addr} {kvs : List (Key × V)}, Tps H ps kvs → Paired (fun q kv => SqT K H q [kV kv.1, kv.2]) ps kvs
  | _, _, .nil => .nil
  | _, _, .cons a r => .cons (SqT.of a) (Tps.sq r)
theorem Tps.len {H : Hp} : ∀ {ps : List Addr} {kvs : List (Key × V)}, Tps H ps kvs → ps.length = kvs.length
  | _, _, .nil => rfl
  | _, _, .cons _ r => congrArg Nat.succ (Tps.len r)
theorem Tps.app {H : Hp} {p : Addr} {kv : Key × V} (h : H p = some (.tup [kV kv.1, kv.2])) : ∀ {ps : List Addr} {kvs : List (Key × V)}, Tps H ps kvs → Tps H (ps ++ [p]) (kvs ++ [kv])
  | _, _, .nil => .cons h .nil
  | _, _, .cons a r => .cons a (Tps.app h r)
theorem refs_st (ps : List Addr) {st : List V} (ok : StOk st) : HO.lst (ps.map V.ref) ≠ .lst st := by
  cases ps with
  | nil => exact nil_st ok
  | cons z r => rcases ok with ⟨c, rfl⟩ | ⟨a, b, c, rfl⟩ <;> (intro z; cases z)
theorem codeO_lst {xs : List V} (c : Addr) (q : Str) : HO.lst xs ≠ CodeO c q := fun z => by
  unfold CodeO at z
  cases z
theorem codeO_dK {xs : List (Key × V)} (c : Addr) (q : Str) : HO.dK xs ≠ CodeO c q := fun z => by
  unfold CodeO at z
  cases z
theorem ens_snoc {C : Addr} {H : Hp} {kvs : List (Key × V)} {es : List (Str × Bool)} {kv : Key × V} {e : Str × Bool} (h : EnsAt C H kvs es) (n : EnAt C H kv e) : EnsAt C H (kvs ++ [kv]) (es ++ [e]) := by
  refine ⟨by rw [List.length_append, List.length_append, h.1]; rfl, fun i kv' e' h1 h2 => ?_⟩
  by_cases hi : i < kvs.length
  · rw [List.getElem?_append_left hi] at h1
    rw [List.getElem?_append_left (by rw [← h.1]; exact hi)] at h2
    exact h.2 i _ _ h1 h2
  · rw [List.getElem?_append_right (by omega)] at h1
    rw [List.getElem?_append_right (by rw [← h.1]; omega)] at h2
    rw [← h.1] at h2
    cases q : i - kvs.length with
    | zero =>
      rw [q] at h1 h2
      cases h1
      cases h2
      exact n
    | succ m =>
      rw [q] at h1
      cases h1
def TL3 (T : List (Addr × Str)) (CR : Addr) (H0 : Hp) (a : Addr) : L2.St → Hp → Prop := fun σ H => ∃ l p zs d kvs es s1 s5 s6 s7 s8 s9 s10 s11 s12 s13 s14 s15 s16 s17 s18, σ = sL a s1 (some (.ref l)) (some (.ref p)) (some (.ref d)) s5 s6 s7 s8 s9 s10 s11 s12 s13 s14 s15 s16 s17 s18 ∧ Sv T H0 l H ∧ H p = some (.lst (zs.map V.str)) ∧ 1 ≤ zs.length ∧ zs.length ≤ 3 ∧ NmOk zs ∧ WTr H CR d kvs es ∧ kvs.length ≤ 3 ∧ ∀ z ∈ zs, (Sum.inr z : Key) ∈ kvs.map Prod.fst
section
variable {P : Program} {w : World} {K : PySem.W.Frag} {mg : Str → Option Value} {base : Heap} {f c : Addr} {A : Around} {outer : List Env} {s : Shared} {H0 : Hp} {E : XK} {a CW CT CM CR : Addr} {C : Fin 4 → Addr} {T : List (Addr × Str)} {ns : List Int}
theorem hT2 (D : Lw P w K mg base T CW CT CM CR C) (hr : Room 14 (XLw P w K mg base f c A outer s H0 E).A) : Ho (XLw P w K mg base f c A outer s H0 E) (stT 2) (TL2 T H0 a) (TL3 T CR H0 a) := by
  obtain ⟨fR, fdR, MR, FR, bR⟩ := D.mkR
  refine ⟨_, ps_set (i := 4) scLw.nd rfl (.inr rfl) (pe_callTy (call_dictP rfl) (by rfl) D.B.dict (by decide +kernel) (pa_cons (pe_lc (own := [("_law_name", 17)]) (g := gName 17) (tt := tYes) (by rfl) scLw.nd (pi_list (pv 3)) (blkOk_by (own := [("_law_name", 17)]) (N := nLw) (sc := defScope sLaw) (by decide +kernel)) (fun _ _ _ _ _ => pg_name (i := 17) scLw.nd rfl (Or.inl rfl)) (fun _ _ _ _ _ => pts_nil)
    (fun _ _ _ _ _ => pe_tup (pa_cons (pv 17) (pa_cons (pe_make MR FR hr (by rfl) D.gR bR .nil passF (pa_cons (pe_cl D.lt hr (by decide) (by rfl) pass0 (pa_cons (pv 2) pa_nil)) pa_nil)) pa_nil)))) pa_nil)), ?_⟩
  rintro D0 σ H ⟨l, p, zs, s1, s4, s5, s6, s7, s8, s9, s10, s11, s12, s13, s14, s15, s16, s17, s18, rfl, S, hz, z1, z3, hok⟩ q
  refine ⟨_, rfl, p, rfl, ⟨_, SqL.of hz⟩, fun Dc hD => lc_list (K := K) (a := p) (xs := zs.map V.str) (fun i H2 => Sv T H0 l H2 ∧ H2 p = some (.lst (zs.map V.str)) ∧ ∃ ps kvs, H2 Dc = some (.lst (ps.map V.ref)) ∧ Tps H2 ps kvs ∧ EnsAt CR H2 kvs ((zs.take i).map fun z => (z, true))) ⟨S.same (same_new hD), same_new hD _ _ hz, [], [], upd_same, .nil, rfl, fun i kv e h => by cases h⟩ (fun i H' _ h => SqL.of h.2.1) ?_ ?_⟩
  · rintro i y H2 hy ⟨S2, hz2, ps, kvs, hps, htp, hen⟩
    rw [List.getElem?_map] at hy
    cases ez : zs[i]? with
    | none =>
      rw [ez] at hy
      cases hy
    | some z =>
    rw [ez] at hy
    have hy : V.str z = y := Option.some.inj hy
    subst hy
    have hi : i < zs.length := (List.getElem?_eq_some_iff.mp ez).1
    have hzm := List.mem_of_getElem? ez
    refine ⟨rfl, _, rfl, _, rfl, l, rfl, S2.st, fun v t H3 ht hn b3 St3 => fun xR dR hxR hdR neR => ?_⟩
    obtain ⟨ks, t', n, rfl, hnv⟩ := trees5_ok ht
    have S3 := S2.but b3 St3
    have k3 := Kp.but b3 S2.st
    have sR : Same H3 (upd (upd H3 dR (.own xR)) xR (.ins CR dR [])) := fun e o h => by
      rw [upd_ne (ne_of_none h hxR), upd_ne (ne_of_none h hdR)]
      exact h
    refine ⟨xR, dR, v, rfl, upd_same, .inl ⟨ks, hn.mono (DKeep.same sR), ?_, fun e => by rw [hnv] at e; cases e⟩⟩
    intro t'' n'' e'' H4 N kvs4 hx4 hN4 _ b4
    have s34 : Same H3 H4 := fun e o h => b4 e o (ne_of_none h hxR) (sR _ _ h)
    refine ⟨rfl, by show 2 ≤ sizeLine; decide, fun tp htp4 => ?_⟩
    have s5 := same_new (o := HO.tup [V.str z, .ref xR]) htp4
    have k25 : Kp H2 (upd H4 tp (.tup [V.str z, .ref xR])) := k3.trans (Kp.same (s34.trans s5))
    have S5 := (S3.same s34).same s5
    have hps5 := k25 _ _ hps (by intro _ z; cases z) (fun _ ok => refs_st ps ok)
    have hz5 := k25 _ _ hz2 (by intro _ z; cases z) (fun _ ok => strs_st' zs ok)
    have npD : p ≠ Dc := ne_of_none hz hD
    have hx5 := s5 _ _ hx4
    have htp5 : upd H4 tp (.tup [V.str z, .ref xR]) tp = some (.tup [V.str z, .ref xR]) := upd_same
    generalize hH5 : upd H4 tp (.tup [V.str z, .ref xR]) = H5 at *
    refine ⟨_, hps5, small1000 ?_, S5.upd (fsh_of S.ex hD) hps5 (by intro _ z; cases z) (fun _ ok => refs_st ps ok) (fun c q => codeO_lst c q), by rw [upd_ne npD]; exact hz5, ps ++ [tp], kvs ++ [(Sum.inr z, .ref xR)], ?_, ?_, ?_⟩
    · rw [List.length_map, htp.len, hen.1, List.length_map, List.length_take]
      omega
    · rw [upd_same, List.map_append]
      rfl
    · exact Tps.updl hps5 (Tps.app (kv := (Sum.inr z, .ref xR)) htp5 (htp.kp k25))
    · rw [take_snoc ez, List.map_append]
      exact EnsAt.updl (ens_snoc (hen.kp k25) ⟨rfl, by have := (hok z hzm).2; show z.length ≤ 100000; omega, xR, rfl, .inl ⟨rfl, _, _, hx5⟩⟩) hps5
  · rintro H2 ⟨S2, hz2, ps, kvs, hps, htp, hen⟩
    rw [List.length_map, List.take_of_length_le (Nat.le_refl _)] at hen
    refine ⟨Dc, ps, kvs, rfl, SqL.of hps, htp.sq, fun d hd => ?_⟩
    have s3 := same_new (o := HO.dK (mergeK [] kvs)) hd
    obtain ⟨es', e1, e2, _, e4⟩ := ens_merge kvs _ [] [] hen ⟨rfl, fun i kv e h => by cases h⟩
    have hlk : kvs.length = zs.length := by rw [hen.1, List.length_map]
    have hfew : (mergeK [] kvs).length ≤ 3 := by
      have := length_mergeK kvs ([] : List (Key × V))
      simp only [List.length_nil] at this
      omega
    have hone : 1 ≤ (mergeK [] kvs).length := by
      cases kvs with
      | nil => simp only [List.length_nil] at hlk; omega
      | cons kv r => exact Nat.le_trans put_pos (len_merge r (putK [] kv.1 kv.2))
    refine q _ _ ⟨l, p, zs, d, mergeK [] kvs, es', _, _, _, _, _, _, _, _, _, _, _, _, _, _, _, rfl, S2.same s3, s3 _ _ hz2, z1, z3, hok, ⟨upd_same, e1.same s3, ?_, hone, Nat.le_trans hfew (by decide), ens_nd e1 hd⟩, hfew, fun z hzm => ?_⟩
    · rw [List.all_eq_true]
      rintro b hb
      obtain ⟨e, he, rfl⟩ := List.mem_map.mp hb
      rcases e2 e he with z | z
      · cases z
      · obtain ⟨z0, hz0, rfl⟩ := List.mem_map.mp z
        show (nameB z0 && true) = true
        rw [(hok z0 hz0).1]
        rfl
    · obtain ⟨e', he', eq⟩ := e4 (z, true) (List.mem_map.mpr ⟨z, hzm, rfl⟩)
      exact (ens_key e1).mp ⟨e', he', eq⟩
end
end Tx
set_option Elab.async false
set_option linter.all false
set_option maxRecDepth 100000
set_option maxHeartbeats 16000000
namespace Tx
open PySem PySem.Spec PyProof.Rows L2 Cm Ob LmB NdefX LamX
/-- the dict of trees, the first one's name, the greatest number -/
structure Tz (CR : Addr) (H : Hp) (d : Addr) (kvs : List (Key × V)) (es : List (Str × Bool)) (z : Str) (mo : Int) : Prop where
  w : WTr H CR d kvs es
  k3 : kvs.length ≤ 3
  nz : nameB z = true
  lz : z.length ≤ 8
  zin : (Sum.inr z : Key) ∈ kvs.map Prod.fst
  m1 : 1 ≤ mo
  m2 : mo ≤ 5000
theorem Tz.kp {CR : Addr} {H H' : Hp} {d : Addr} {kvs : List (Key × V)} {es : List (Str × Bool)} {z : Str} {mo : Int} (h : Tz CR H d kvs es z mo) (s : Kp H H') : Tz CR H' d kvs es z mo := ⟨h.w.kp s, h.k3, h.nz, h.lz, h.zin, h.m1, h.m2⟩
def TL4 (T : List (Addr × Str)) (CR : Addr) (H0 : Hp) (a : Addr) : L2.St → Hp → Prop := fun σ H => ∃ l d kvs es z mo s1 s3 s7 s8 s9 s10 s11 s12 s13 s14 s15 s16 s17 s18, σ = sL a s1 (some (.ref l)) s3 (some (.ref d)) (some (.str z)) (some (.int mo)) s7 s8 s9 s10 s11 s12 s13 s14 s15 s16 s17 s18 ∧ Sv T H0 l H ∧ Tz CR H d kvs es z mo
def TL5 (T : List (Addr × Str)) (CR : Addr) (H0 : Hp) (a : Addr) : L2.St → Hp → Prop := fun σ H => ∃ l d kvs es z mo d2 s1 s3 s8 s9 s10 s11 s12 s13 s14 s15 s16 s17 s18, σ = sL a s1 (some (.ref l)) s3 (some (.ref d)) (some (.str z)) (some (.int mo)) (some (.ref d2)) s8 s9 s10 s11 s12 s13 s14 s15 s16 s17 s18 ∧ Sv T H0 l H ∧ Tz CR H d kvs es z mo ∧ H d2 = some (.dK kvs) ∧ d2 ≠ d ∧ Fsh H0 d2 ∧ ∀ kv ∈ kvs, kv.2 ≠ .ref d2
def TL6 (T : List (Addr × Str)) (CW CT CM CR : Addr) (H0 : Hp) (a : Addr) : L2.St → Hp → Prop := fun σ H => ∃ l d kvs es z mo d2 x dx l1 l2 tr B s1 s3 s9 s10 s11 s12 s13 s14 s15 s16 s17 s18, σ = sL a s1 (some (.ref l)) s3 (some (.ref d)) (some (.str z)) (some (.int mo)) (some (.ref d2)) (some (.ref x)) s9 s10 s11 s12 s13 s14 s15 s16 s17 s18 ∧ Sv T H0 l H ∧ Tz CR H d kvs es z mo ∧ H d2 = some (.dK kvs) ∧ d2 ≠ d ∧ Fsh H0 d2 ∧ (∀ kv ∈ kvs, kv.2 ≠ .ref d2) ∧ WAt H CW CT CM tr z mo x dx l1 l2 B ∧ B.tr ≠ d2
/-- the world as it begins -/
def TL7 (T : List (Addr × Str)) (CW CT CM CR : Addr) (H0 : Hp) (a : Addr) : L2.St → Hp → Prop := fun σ H => ∃ l d kvs es z mo x dx l1 l2 tr B s1 s3 s7 s9 s10 s11 s12 s13 s14 s15 s16 s17 s18, σ = sL a s1 (some (.ref l)) s3 (some (.ref d)) (some (.str z)) (some (.int mo)) s7 (some (.ref x)) s9 s10 s11 s12 s13 s14 s15 s16 s17 s18 ∧ Sv T H0 l H ∧ Tz CR H d kvs es z mo ∧ WAt H CW CT CM tr z mo x dx l1 l2 B
section
variable {P : Program} {w : World} {K : PySem.W.Frag} {mg : Str → Option Value} {base : Heap} {f c : Addr} {A : Around} {outer : List Env} {s : Shared} {H0 : Hp} {E : XK} {a CW CT CM CR : Addr} {C : Fin 4 → Addr} {T : List (Addr × Str)} {ns : List Int}
theorem hT3 (D : Lw P w K mg base T CW CT CM CR C) (hr : Room 14 (XLw P w K mg base f c A outer s H0 E).A) : Ho (XLw P w K mg base f c A outer s H0 E) (stT 3) (TL3 T CR H0 a) (TL4 T CR H0 a) := by
  refine ⟨_, ps_asg (pe_tup (pa_cons (pe_ix ix_list (pv 3) (pe_cl D.dig hr (by decide) (by rfl) pass0 (pa_cons (pv 2) (pa_cons (pe_callB call_len_seq (by rfl) D.B.len PySem.boot_len (pa_cons (pv 3) pa_nil)) pa_nil))) (fun _ _ => rfl)) (pa_cons (pe_ix ix_list (pe_lst (pa_cons pe_int (pa_cons pe_int (pa_cons (pe_op op_add pe_int (pe_cl D.dig hr (by decide) (by rfl) pass0 (pa_cons (pv 2) (pa_cons pe_int pa_nil)))) pa_nil)))) (pe_cl D.dig hr (by decide) (by rfl) pass0 (pa_cons (pv 2) (pa_cons pe_int pa_nil))) (fun _ _ => rfl)) pa_nil))) (pg_tup rfl (pgs_cons (pg_name (i := 5) scLw.nd rfl (.inr rfl)) (pgs_cons (pg_name (i := 6) scLw.nd rfl (.inl rfl)) pgs_nil))), ?_⟩
  rintro D0 σ H ⟨l, p, zs, d, kvs, es, s1, s5, s6, s7, s8, s9, s10, s11, s12, s13, s14, s15, s16, s17, s18, rfl, S, hz, z1, z3, hok, W, k3, hin⟩ q
  obtain ⟨st, hl, ok⟩ := S.st
  refine ⟨_, rfl, _, rfl, _, rfl, p, _, rfl, .inl (SqL.of hz), l, st, _, rfl, hl, ok, ?_, ?_, fun d1 st1 H1 hd1 ok1 hl1 b1 => ?_⟩
  · rw [List.length_map]
    omega
  · rw [List.length_map]
    omega
  rw [List.length_map] at hd1
  have hd1' : d1 < zs.length := by omega
  have k1 := Kp.but b1 S.st
  have S1 := S.but b1 ⟨st1, hl1, ok1⟩
  refine ⟨p, _, d1, .str zs[d1], rfl, rfl, SqL.of (k1 _ _ hz (by intro _ z; cases z) (fun _ ok => strs_st' zs ok)), atI_nat (by rw [List.getElem?_map, List.getElem?_eq_getElem hd1']; rfl), ?_⟩
  refine ⟨_, rfl, l, st1, _, rfl, hl1, ok1, by decide, by decide, fun d2 st2 H2 hd2 ok2 hl2 b2 => ⟨_, _, rfl, rfl, by show 3 ≤ sizeLine; decide, fun p3 hp3 => ?_⟩⟩
  have k2 := Kp.but b2 S1.st
  have S2 := S1.but b2 ⟨st2, hl2, ok2⟩
  have s3' := same_new (o := HO.lst [V.int 1, .int 5000, .int (1 + (d2 : Int))]) hp3
  have S3 := S2.same s3'
  refine ⟨_, rfl, l, st2, _, rfl, s3' _ _ hl2, ok2, by decide, by decide, fun d4 st4 H4 hd4 ok4 hl4 b4 => ?_⟩
  have k4 := Kp.but b4 S3.st
  have S4 := S3.but b4 ⟨st4, hl4, ok4⟩
  have hd4' : d4 < 3 := by
    have z : (d4 : Int) < 3 := hd4
    omega
  have hd2' : (d2 : Int) < 5000 := hd2
  obtain ⟨mo, hmo, m1, m2⟩ : ∃ mo : Int, [V.int 1, .int 5000, .int (1 + (d2 : Int))][d4]? = some (.int mo) ∧ 1 ≤ mo ∧ mo ≤ 5000 := by
    match d4, hd4' with
    | 0, _ => exact ⟨_, rfl, by omega, by omega⟩
    | 1, _ => exact ⟨_, rfl, by omega, by omega⟩
    | 2, _ => exact ⟨_, rfl, by omega, by omega⟩
  refine ⟨p3, _, d4, .int mo, rfl, rfl, SqL.of (b4 p3 _ (Ne.symm (ne_of_none hl2 hp3)) upd_same), atI_nat hmo, by show 2 ≤ sizeLine; decide, fun t ht => ?_⟩
  have s5' := same_new (o := HO.tup [V.str zs[d1], .int mo]) ht
  have kF : Kp H (upd H4 t (.tup [V.str zs[d1], .int mo])) := k1.trans (k2.trans ((Kp.same s3').trans (k4.trans (Kp.same s5'))))
  have hzm : zs[d1] ∈ zs := List.getElem_mem hd1'
  refine ⟨t, _, rfl, SqT.of upd_same, rfl, _, _, rfl, _, _, rfl, rfl, q _ _ ⟨l, d, kvs, es, zs[d1], mo, _, _, _, _, _, _, _, _, _, _, _, _, _, _, rfl, S4.same s5', W.kp kF, k3, (hok _ hzm).1, (hok _ hzm).2, hin _ hzm, m1, m2⟩⟩
theorem hT4 (D : Lw P w K mg base T CW CT CM CR C) (hr : Room 14 (XLw P w K mg base f c A outer s H0 E).A) : Ho (XLw P w K mg base f c A outer s H0 E) (stT 4) (TL4 T CR H0 a) (TL5 T CR H0 a) := by
  refine ⟨_, ps_set (i := 7) scLw.nd rfl (.inl rfl) (pe_callTy call_dictD (by rfl) D.B.dict (by decide +kernel) (pa_cons (pv 4) pa_nil)), ?_⟩
  rintro D0 σ H ⟨l, d, kvs, es, z, mo, s1, s3, s7, s8, s9, s10, s11, s12, s13, s14, s15, s16, s17, s18, rfl, S, Z⟩ q
  refine ⟨_, rfl, d, kvs, rfl, .inl Z.w.hd, fun p hp => ?_⟩
  have s1' := same_new (o := HO.dK kvs) hp
  exact q _ _ ⟨l, d, kvs, es, z, mo, p, _, _, _, _, _, _, _, _, _, _, _, _, _, rfl, S.same s1', Z.kp (Kp.same s1'), upd_same, Ne.symm (ne_of_none Z.w.hd hp), fsh_of S.ex hp, ens_nd Z.w.en hp⟩
theorem hT5 (D : Lw P w K mg base T CW CT CM CR C) (hr : Room 14 (XLw P w K mg base f c A outer s H0 E).A) : Ho (XLw P w K mg base f c A outer s H0 E) (stT 5) (TL5 T CR H0 a) (TL6 T CW CT CM CR H0 a) := by
  obtain ⟨fW, fdW, ds, its, MW, FW, ⟨bW, vW⟩, _⟩ := D.mkW
  refine ⟨_, ps_set (i := 8) scLw.nd rfl (.inl rfl) (pe_make MW FW (hr.mono (by decide)) (by rfl) D.gW bW vW passF (pa_cons (pv 7) (pa_cons (pv 5) (pa_cons (pv 6) pa_nil)))), ?_⟩
  rintro D0 σ H ⟨l, d, kvs, es, z, mo, d2, s1, s3, s8, s9, s10, s11, s12, s13, s14, s15, s16, s17, s18, rfl, S, Z, h2, n2, f2, nd2⟩ q
  refine ⟨_, rfl, _, rfl, _, rfl, fun xW dW hxW hdW neW => ?_⟩
  have sW : Same H (upd (upd H dW (.own xW)) xW (.ins CW dW [])) := fun e o h => by
    rw [upd_ne (ne_of_none h hxW), upd_ne (ne_of_none h hdW)]
    exact h
  have kW := Kp.same sW
  have ZW := Z.kp kW
  refine ⟨xW, .good dW d2 kvs es z mo rfl ⟨upd_same, ⟨sW _ _ h2, ZW.w.en, Z.w.good, Z.w.one, Z.w.few, nd2⟩, Z.nz, by have := Z.lz; omega, Z.zin, ens_nd Z.w.en hxW, Z.m1, Z.m2⟩ (fun H' l1 l2 B tr b ntr W' => ⟨rfl, ?_⟩)⟩
  have sF : Same H H' := fun e o h => b e o (ne_of_none h hxW) (sW _ _ h)
  have ntr2 : B.tr ≠ d2 := fun e => by
    rw [e, sW _ _ h2] at ntr
    cases ntr
  exact q _ _ ⟨l, d, kvs, es, z, mo, d2, xW, dW, l1, l2, tr, B, _, _, _, _, _, _, _, _, _, _, _, _, rfl, S.same sF, Z.kp (Kp.same sF), sF _ _ h2, n2, f2, nd2, W', ntr2⟩
theorem kvs_ref {CR : Addr} {H : Hp} {kvs : List (Key × V)} {es : List (Str × Bool)} (h : EnsAt CR H kvs es) {kv : Key × V} (hk : kv ∈ kvs) : ∃ z a, kv = (Sum.inr z, .ref a) := by
  obtain ⟨e, _, h1, _, a, h3, _⟩ := ens_at h hk
  exact ⟨e.1, a, Prod.ext h1 h3⟩
theorem WAt.clr {CR : Addr} {H : Hp} {kvs : List (Key × V)} {es : List (Str × Bool)} {d2 : Addr} {o : HO} {tr : List (Key × V)} {z : Str} {mo : Int} {x dx l1 l2 : Addr} {B : Ad} (W : WAt H CW CT CM tr z mo x dx l1 l2 B) (en : EnsAt CR H kvs es) (one : 1 ≤ kvs.length) (h2 : H d2 = some (.dK kvs)) (nt : B.tr ≠ d2) : WAt (upd H d2 o) CW CT CM tr z mo x dx l1 l2 B := by
  have ne : ∀ {e : Addr} {u : HO}, H e = some u → u ≠ .dK kvs → upd H d2 o e = some u := fun {e u} h n => by
    rw [upd_ne (ne_of h h2 n)]
    exact h
  obtain ⟨kv0, r, rfl⟩ : ∃ kv0 r, kvs = kv0 :: r := by
    cases kvs with
    | nil => cases one
    | cons a r => exact ⟨a, r, rfl⟩
  obtain ⟨z0, a0, rfl⟩ := kvs_ref en List.mem_cons_self
  exact ⟨ne W.hx (by intro z; cases z), ne W.h1 (by intro z; cases z), ne W.h2 (by intro z; cases z), ne W.t.hT (by intro z; cases z), by rw [upd_ne nt]; exact W.t.tr, ne W.t.kn (by intro z; cases z), ne W.t.pl (by intro z; cases z), ne W.t.tp (by intro z; cases z), ne W.t.ow (by intro z; cases z), ne W.t.ms (by intro z; cases z), ne W.t.mb (by intro z; cases z), ne W.t.bh (by intro z; cases z), ne W.t.ct (by intro z; unfold cntK at z; cases z), ne W.t.hm (by intro z; cases z), ne W.t.e (by intro z; cases z), ne W.t.rt (by intro z; cases z)⟩
theorem hT6 (D : Lw P w K mg base T CW CT CM CR C) (hr : Room 14 (XLw P w K mg base f c A outer s H0 E).A) : Ho (XLw P w K mg base f c A outer s H0 E) (stT 6) (TL6 T CW CT CM CR H0 a) (TL7 T CW CT CM CR H0 a) := by
  refine ⟨_, ps_expr (pe_dclear (pv 7)), ?_⟩
  rintro D0 σ H ⟨l, d, kvs, es, z, mo, d2, x, dx, l1, l2, tr, B, s1, s3, s9, s10, s11, s12, s13, s14, s15, s16, s17, s18, rfl, S, Z, h2, n2, f2, nd2, W, nt⟩ q
  refine ⟨_, rfl, ?_, d2, kvs, rfl, rfl, h2, q _ _ ⟨l, d, kvs, es, z, mo, x, dx, l1, l2, tr, B, _, _, _, _, _, _, _, _, _, _, _, _, _, rfl, S.upd f2 h2 (by intro _ z; cases z) (by intro _ _ z; cases z) (fun c q => codeO_dK c q), ⟨⟨by rw [upd_ne (Ne.symm n2)]; exact Z.w.hd, ?_, Z.w.good, Z.w.one, Z.w.few, Z.w.nd⟩, Z.k3, Z.nz, Z.lz, Z.zin, Z.m1, Z.m2⟩, W.clr Z.w.en Z.w.one h2 nt⟩⟩
  · exact .inr (.inr (.inl ⟨rfl, .inl ⟨_, h2⟩⟩))
  · refine ⟨Z.w.en.1, fun i kv e h1 h2' => ?_⟩
    obtain ⟨g1, g2, a', g3, g4⟩ := Z.w.en.2 i kv e h1 h2'
    have na : a' ≠ d2 := fun z => nd2 kv (List.mem_of_getElem? h1) (by rw [g3, z])
    refine ⟨g1, g2, a', g3, ?_⟩
    rcases g4 with ⟨y1, dt, ft, y⟩ | ⟨y1, ys, y⟩
    · exact .inl ⟨y1, dt, ft, by rw [upd_ne na]; exact y⟩
    · exact .inr ⟨y1, ys, by rw [upd_ne na]; exact y⟩
end
end Tx
set_option Elab.async false
set_option linter.all false
set_option maxRecDepth 100000
set_option maxHeartbeats 16000000
namespace Tx
open PySem PySem.Spec PyProof.Rows L2 Cm Ob LmB NdefX LamX
theorem name_sign {z : Str} (h : nameB z = true) {c : Nat} (hc : c ∈ z.cps.toList) : signB c = true := by
  unfold nameB at h
  simp only [Bool.and_eq_true, List.all_eq_true, List.mem_map, id] at h
  exact h.2.2 _ ⟨c, hc, rfl⟩
theorem sign_lt {c : Nat} (h : signB c = true) : c < 128 := by
  have h : c ∈ letters.cps.toList := of_decide_eq_true h
  have : ∀ c ∈ letters.cps.toList, c < 128 := by decide +kernel
  exact this c h
theorem name_ok {z : Str} (h : nameB z = true) : PyData.strOk z = true := by
  unfold PyData.strOk
  rw [← Array.all_toList, List.all_eq_true]
  intro c hc
  have := sign_lt (name_sign h hc)
  exact decide_eq_true (by omega)
def toD (z : Str) : PyData := .tuple [.int 0, .str z, .tuple [], .none, .none, .str "alone", .bool false]
def plD (z : Str) : PyData := .tuple [.str z, .tuple [], .tuple []]
def shD (z : Str) : PyData := .tuple [.tuple [.int 0, .str z, .tuple [], .tuple [.str "alone", .none, .none, .int 0, .bool false], .tuple []]]
theorem toD_ok {z : Str} (h : nameB z = true) : SeqAt.shaped (toD z) = true := by
  unfold SeqAt.shaped toD
  simp [PyData.canLay0, PyData.canLayAll0, PyData.depth, PyData.depthAll, name_ok h]
  decide +kernel
theorem plD_ok {z : Str} (h : nameB z = true) : SeqAt.shaped (plD z) = true := by
  unfold SeqAt.shaped plD
  simp [PyData.canLay0, PyData.canLayAll0, PyData.depth, PyData.depthAll, name_ok h]
theorem shD_ok {z : Str} (h : nameB z = true) : SeqAt.shaped (shD z) = true := by
  unfold SeqAt.shaped shD
  simp [PyData.canLay0, PyData.canLayAll0, PyData.depth, PyData.depthAll, name_ok h]
  decide +kernel
theorem ne_no {d : PyData} (h : SeqAt.shaped d = true) : (!PyData.eqv d d) = false := by
  rw [SeqAt.eqv_refl d (SeqAt.canLay_of_shaped h)]
  rfl
theorem ShAt.dp {K : PySem.W.Frag} {H : Hp} {v : V} {z : Str} (h : ShAt H v z) : Dp K H v (shD z) := by
  obtain ⟨p1, p2, rt, lb, on, rfl, h1, h2, h3, h4, h5⟩ := h
  exact .tup (SqT.of h1) (.cons (.tup (SqT.of h2) (.cons (.int 0) (.cons (.str z) (.cons (.tup (SqT.of h3) .nil) (.cons (.tup (SqT.of h4) (.cons (.str _) (.cons .non (.cons .non (.cons (.int 0) (.cons (.bl false) .nil)))))) (.cons (.tup (SqT.of h5) .nil) .nil)))))) .nil)
theorem rTo.dp {K : PySem.W.Frag} {H : Hp} {v : V} {z : Str} (h : rTo z H v) : Dp K H v (toD z) := by
  obtain ⟨p, rt, rfl, h1, h2⟩ := h
  exact .tup (SqT.of h1) (.cons (.int 0) (.cons (.str z) (.cons (.tup (SqT.of h2) .nil) (.cons .non (.cons .non (.cons (.str _) (.cons (.bl false) .nil)))))))
theorem rPl.dp {K : PySem.W.Frag} {H : Hp} {v : V} {z : Str} (h : rPl z H v) : Dp K H v (plD z) := by
  obtain ⟨p, rt, on, rfl, h1, h2, h3⟩ := h
  exact .tup (SqT.of h1) (.cons (.str z) (.cons (.tup (SqT.of h2) .nil) (.cons (.tup (SqT.of h3) .nil) .nil)))
section
variable {P : Program} {w : World} {K : PySem.W.Frag} {mg : Str → Option Value} {base : Heap} {f c : Addr} {A : Around} {outer : List Env} {s : Shared} {H0 : Hp} {E : XK} {a CW CT CM CR : Addr} {C : Fin 4 → Addr} {T : List (Addr × Str)} {ns : List Int}
theorem gs7 : Wl.Stb (TL7 T CW CT CM CR H0 a) := fun σ H H' sm ⟨l, d, kvs, es, z, mo, x, dx, l1, l2, tr, B, s1, s3, s7, s9, s10, s11, s12, s13, s14, s15, s16, s17, s18, e, S, Z, W⟩ => ⟨l, d, kvs, es, z, mo, x, dx, l1, l2, tr, B, s1, s3, s7, s9, s10, s11, s12, s13, s14, s15, s16, s17, s18, e, S.same sm, Z.kp (Kp.same sm), W.same sm⟩
theorem l0_dp {K : PySem.W.Frag} {H : Hp} {p : Addr} (h : H p = some (.lst [.int 0])) : Dp K H (.ref p) (.list [.int 0]) := .lst (SqL.of h) (.cons (.int 0) .nil)
theorem hT7 (D : Lw P w K mg base T CW CT CM CR C) (hr : Room 14 (XLw P w K mg base f c A outer s H0 E).A) : Ho (XLw P w K mg base f c A outer s H0 E) (stT 7) (TL7 T CW CT CM CR H0 a) (TL7 T CW CT CM CR H0 a) := by
  obtain ⟨fS, fdS, mS, FS, bS⟩ := D.spaces
  obtain ⟨fM, fdM, mM, FM, bM⟩ := D.q.mounts
  obtain ⟨fO, fdO, mO, FO, bO⟩ := D.q.owner
  obtain ⟨fT, fdT, mT, FT, bT⟩ := D.q.trusted
  refine ⟨_, ps_if (pt_cmpR (op_neD hr.units) (pe_tup (pa_cons (pe_meth0 (pv 8) D.q.cW.cl mS FS (hr.mono (by decide)) bS .nil pass0) (pa_cons (pe_meth (pv 8) D.q.cW.cl mM FM (hr.mono (by decide)) bM .nil passF (pa_cons pe_int pa_nil)) (pa_cons (pe_meth (pv 8) D.q.cW.cl mO FO (hr.mono (by decide)) bO .nil passF (pa_cons pe_int pa_nil)) (pa_cons (pe_meth (pv 8) D.q.cW.cl mT FT (hr.mono (by decide)) bT .nil passF (pa_cons pe_int pa_nil)) pa_nil))))) (pe_tup (pa_cons (pe_lst (pa_cons pe_int pa_nil)) (pa_cons (pe_lst (pa_cons pe_int pa_nil)) (pa_cons pe_int (pa_cons pe_bl pa_nil))))) (nomark _)) (pss_one (ps_ret pe_bl)) pss_nil, ?_⟩
  rintro D0 σ H g q
  obtain ⟨l, d, kvs, es, z, mo, x, dx, l1, l2, tr, B, s1, s3, s7, s9, s10, s11, s12, s13, s14, s15, s16, s17, s18, rfl, S, Z, W⟩ := id g
  refine ⟨_, rfl, x, dx, _, rfl, W.hx, rfl, x, dx, l1, l2, tr, z, mo, B, rfl, W, fun p1 hp1 => ?_⟩
  have c1 := same_new (o := HO.lst [V.int 0]) hp1
  have W1 := W.same c1
  refine ⟨_, rfl, x, dx, _, rfl, W1.hx, rfl, x, dx, l1, l2, tr, z, mo, B, _, rfl, W1, .inl ⟨rfl, fun u2 H2 c2 r2 => ?_⟩⟩
  have W2 := W1.same c2
  refine ⟨_, rfl, x, dx, _, rfl, W2.hx, rfl, x, dx, l1, l2, tr, z, mo, B, _, rfl, W2, .inl ⟨rfl, fun u3 H3 c3 r3 => ?_⟩⟩
  have W3 := W2.same c3
  refine ⟨_, rfl, x, dx, _, rfl, W3.hx, rfl, x, dx, l1, l2, tr, z, mo, B, _, rfl, W3, .inl ⟨rfl, fun u4 H4 c4 r4 => ?_⟩⟩
  obtain ⟨p2, rfl, hp2⟩ := r2
  cases r3
  cases r4
  refine ⟨by show 4 ≤ sizeLine; decide, fun t1 ht1 => ?_⟩
  have c5 := same_new (o := HO.tup [.ref p1, .ref p2, .int 0, .bl true]) ht1
  refine ⟨by show 1 ≤ sizeLine; decide, fun p3 hp3 => ⟨by show 1 ≤ sizeLine; decide, fun p4 hp4 => ⟨by show 4 ≤ sizeLine; decide, fun t2 ht2 => ?_⟩⟩⟩
  have c6 := same_new (o := HO.lst [V.int 0]) hp3
  have c7 := same_new (o := HO.lst [V.int 0]) hp4
  have c8 := same_new (o := HO.tup [.ref p3, .ref p4, .int 0, .bl true]) ht2
  have c58 := c6.trans (c7.trans c8)
  have c48 := c5.trans c58
  refine ⟨.tuple [.list [.int 0], .list [.int 0], .int 0, .bool true], .tuple [.list [.int 0], .list [.int 0], .int 0, .bool true], .tup (SqT.of (c58 _ _ upd_same)) (.cons (l0_dp (c48 _ _ (c4 _ _ (c3 _ _ (c2 _ _ upd_same))))) (.cons (l0_dp (c48 _ _ (c4 _ _ (c3 _ _ hp2)))) (.cons (.int 0) (.cons (.bl true) .nil)))),
    .tup (SqT.of upd_same) (.cons (l0_dp (c8 _ _ (c7 _ _ upd_same))) (.cons (l0_dp (c8 _ _ upd_same)) (.cons (.int 0) (.cons (.bl true) .nil)))), by decide +kernel, by decide +kernel, _, rfl, iteF' (by decide +kernel) (q _ _ (gs7 _ _ _ (c1.trans (c2.trans (c3.trans (c4.trans c48)))) g))⟩
theorem hT8 (D : Lw P w K mg base T CW CT CM CR C) (hr : Room 14 (XLw P w K mg base f c A outer s H0 E).A) : Ho (XLw P w K mg base f c A outer s H0 E) (stT 8) (TL7 T CW CT CM CR H0 a) (TL7 T CW CT CM CR H0 a) := by
  obtain ⟨fP, fdP, mP, FP, bP⟩ := D.past
  obtain ⟨fT, fdT, mT, FT, bT⟩ := D.q.told
  refine ⟨_, ps_if (PW.pt (pw_or (pt_cmpR (op_neD hr.units) (pe_meth (pv 8) D.q.cW.cl mT FT (hr.mono (by decide)) bT .nil passF (pa_cons pe_int pa_nil)) (pe_tup (pa_cons pe_int (pa_cons (pv 5) (pa_cons (pe_tup pa_nil) (pa_cons pe_non (pa_cons pe_non (pa_cons pe_str (pa_cons pe_bl pa_nil)))))))) (nomark _)) (pw_or1 (pt_cmpR (op_neD hr.units) (pe_meth0 (pv 8) D.q.cW.cl mP FP (hr.mono (by decide)) bP .nil pass0) (pe_lst pa_nil) (nomark _))))) (pss_one (ps_ret pe_bl)) pss_nil, ?_⟩
  rintro D0 σ H g q
  obtain ⟨l, d, kvs, es, z, mo, x, dx, l1, l2, tr, B, s1, s3, s7, s9, s10, s11, s12, s13, s14, s15, s16, s17, s18, rfl, S, Z, W⟩ := id g
  refine ⟨_, rfl, x, dx, _, rfl, W.hx, rfl, x, dx, l1, l2, tr, z, mo, B, _, rfl, W, .inl ⟨rfl, fun u1 H1 c1 r1 => ?_⟩⟩
  have W1 := W.same c1
  refine ⟨_, rfl, by show 0 ≤ sizeLine; decide, fun p2 hp2 => ⟨by show 7 ≤ sizeLine; decide, fun p3 hp3 => ?_⟩⟩
  have c2 := same_new (o := HO.tup []) hp2
  have c3 := same_new (o := HO.tup [.int 0, .str z, .ref p2, .non, .non, .str "alone", .bl false]) hp3
  have c23 := c2.trans c3
  obtain ⟨p0, rt0, rfl, r2, r3⟩ := r1
  refine ⟨toD z, toD z, rTo.dp ⟨p0, rt0, rfl, c23 _ _ r2, c23 _ _ r3⟩, rTo.dp ⟨p3, p2, rfl, upd_same, c3 _ _ upd_same⟩, toD_ok Z.nz, toD_ok Z.nz, _, rfl, iteF' (ne_no (toD_ok Z.nz)) ?_⟩
  have W2 := W1.same c23
  refine ⟨_, rfl, x, dx, _, rfl, W2.hx, rfl, x, dx, l1, l2, tr, z, mo, B, rfl, W2, fun p4 H4 c4 hp4 => ?_⟩
  refine ⟨by show 0 ≤ sizeLine; decide, fun p5 hp5 => ?_⟩
  have c5 := same_new (o := HO.lst []) hp5
  exact ⟨.list [], .list [], .lst (SqL.of (c5 _ _ hp4)) .nil, .lst (SqL.of upd_same) .nil, by decide +kernel, by decide +kernel, _, rfl, iteF' (by decide +kernel) (q _ _ (gs7 _ _ _ (c1.trans (c23.trans (c4.trans c5))) g))⟩
theorem hT9 (D : Lw P w K mg base T CW CT CM CR C) (hr : Room 14 (XLw P w K mg base f c A outer s H0 E).A) : Ho (XLw P w K mg base f c A outer s H0 E) (stT 9) (TL7 T CW CT CM CR H0 a) (TL7 T CW CT CM CR H0 a) := by
  obtain ⟨fP, fdP, mP, FP, bP⟩ := D.q.peers
  obtain ⟨fF, fdF, mF, FF, bF⟩ := D.q.followed
  obtain ⟨fT, fdT, mT, FT, bT⟩ := D.q.receivers
  refine ⟨_, ps_if (PW.pt (pw_or (pt_cmpR (op_neD hr.units) (pe_meth (pv 8) D.q.cW.cl mP FP (hr.mono (by decide)) bP .nil passF (pa_cons pe_int pa_nil)) (pe_lst (pa_cons pe_int pa_nil)) (nomark _)) (pw_or (pt_cmpR (op_neD hr.units) (pe_meth (pv 8) D.q.cW.cl mF FF (hr.mono (by decide)) bF .nil passF (pa_cons pe_int pa_nil)) (pe_lst pa_nil) (nomark _)) (pw_or1 (pt_cmpR (op_neD hr.units) (pe_meth (pv 8) D.q.cW.cl mT FT (hr.mono (by decide)) bT .nil passF (pa_cons pe_int pa_nil)) (pe_lst (pa_cons pe_int pa_nil)) (nomark _)))))) (pss_one (ps_ret pe_bl)) pss_nil, ?_⟩
  rintro D0 σ H g q
  obtain ⟨l, d, kvs, es, z, mo, x, dx, l1, l2, tr, B, s1, s3, s7, s9, s10, s11, s12, s13, s14, s15, s16, s17, s18, rfl, S, Z, W⟩ := id g
  refine ⟨_, rfl, x, dx, _, rfl, W.hx, rfl, x, dx, l1, l2, tr, z, mo, B, _, rfl, W, .inl ⟨rfl, fun u1 H1 c1 r1 => ?_⟩⟩
  obtain ⟨p1, rfl, hp1⟩ := r1
  refine ⟨by show 1 ≤ sizeLine; decide, fun p2 hp2 => ?_⟩
  have c2 := same_new (o := HO.lst [V.int 0]) hp2
  refine ⟨.list [.int 0], .list [.int 0], l0_dp (c2 _ _ hp1), l0_dp upd_same, by decide +kernel, by decide +kernel, _, rfl, iteF' (by decide +kernel) ?_⟩
  have W2 := (W.same c1).same c2
  refine ⟨_, rfl, x, dx, _, rfl, W2.hx, rfl, x, dx, l1, l2, tr, z, mo, B, _, rfl, W2, .inl ⟨rfl, fun u3 H3 c3 r3 => ?_⟩⟩
  obtain ⟨p3, rfl, hp3⟩ := r3
  refine ⟨by show 0 ≤ sizeLine; decide, fun p4 hp4 => ?_⟩
  have c4 := same_new (o := HO.lst []) hp4
  refine ⟨.list [], .list [], .lst (SqL.of (c4 _ _ hp3)) .nil, .lst (SqL.of upd_same) .nil, by decide +kernel, by decide +kernel, _, rfl, iteF' (by decide +kernel) ?_⟩
  have W4 := (W2.same c3).same c4
  refine ⟨_, rfl, x, dx, _, rfl, W4.hx, rfl, x, dx, l1, l2, tr, z, mo, B, _, rfl, W4, .inl ⟨rfl, fun u5 H5 c5 r5 => ?_⟩⟩
  obtain ⟨p5, rfl, hp5⟩ := r5
  refine ⟨by show 1 ≤ sizeLine; decide, fun p6 hp6 => ?_⟩
  have c6 := same_new (o := HO.lst [V.int 0]) hp6
  exact ⟨.list [.int 0], .list [.int 0], l0_dp (c6 _ _ hp5), l0_dp upd_same, by decide +kernel, by decide +kernel, _, rfl, iteF' (by decide +kernel) (q _ _ (gs7 _ _ _ (c1.trans (c2.trans (c3.trans (c4.trans (c5.trans c6))))) g))⟩
theorem hT10 (D : Lw P w K mg base T CW CT CM CR C) (hr : Room 14 (XLw P w K mg base f c A outer s H0 E).A) : Ho (XLw P w K mg base f c A outer s H0 E) (stT 10) (TL7 T CW CT CM CR H0 a) (TL7 T CW CT CM CR H0 a) := by
  obtain ⟨fP, fdP, mP, FP, bP⟩ := D.q.plain
  obtain ⟨fF, fdF, mF, FF, bF⟩ := D.shape
  refine ⟨_, ps_if (PW.pt (pw_or (pt_cmpR (op_neD hr.units) (pe_meth (pv 8) D.q.cW.cl mP FP (hr.mono (by decide)) bP .nil passF (pa_cons pe_int pa_nil)) (pe_tup (pa_cons (pv 5) (pa_cons (pe_tup pa_nil) (pa_cons (pe_tup pa_nil) pa_nil)))) (nomark _)) (pw_or1 (pt_cmpR (op_neD hr.units) (pe_meth0 (pv 8) D.q.cW.cl mF FF (hr.mono (by decide)) bF .nil pass0) (pe_tup (pa_cons (pe_tup (pa_cons pe_int (pa_cons (pv 5) (pa_cons (pe_tup pa_nil) (pa_cons (pe_tup (pa_cons pe_str (pa_cons pe_non (pa_cons pe_non (pa_cons pe_int (pa_cons pe_bl pa_nil)))))) (pa_cons (pe_tup pa_nil) pa_nil)))))) pa_nil)) (nomark _))))) (pss_one (ps_ret pe_bl)) pss_nil, ?_⟩
  rintro D0 σ H g q
  obtain ⟨l, d, kvs, es, z, mo, x, dx, l1, l2, tr, B, s1, s3, s7, s9, s10, s11, s12, s13, s14, s15, s16, s17, s18, rfl, S, Z, W⟩ := id g
  refine ⟨_, rfl, x, dx, _, rfl, W.hx, rfl, x, dx, l1, l2, tr, z, mo, B, _, rfl, W, .inl ⟨rfl, fun u1 H1 c1 r1 => ?_⟩⟩
  refine ⟨_, rfl, by show 0 ≤ sizeLine; decide, fun p2 hp2 => ⟨by show 0 ≤ sizeLine; decide, fun p3 hp3 => ⟨by show 3 ≤ sizeLine; decide, fun p4 hp4 => ?_⟩⟩⟩
  have c2 := same_new (o := HO.tup []) hp2
  have c3 := same_new (o := HO.tup []) hp3
  have c4 := same_new (o := HO.tup [.str z, .ref p2, .ref p3]) hp4
  have c24 := c2.trans (c3.trans c4)
  obtain ⟨p0, rt0, on0, rfl, r2, r3, r4⟩ := r1
  refine ⟨plD z, plD z, rPl.dp ⟨p0, rt0, on0, rfl, c24 _ _ r2, c24 _ _ r3, c24 _ _ r4⟩, rPl.dp ⟨p4, p2, p3, rfl, upd_same, c4 _ _ (c3 _ _ upd_same), c4 _ _ upd_same⟩, plD_ok Z.nz, plD_ok Z.nz, _, rfl, iteF' (ne_no (plD_ok Z.nz)) ?_⟩
  have W4 := (W.same c1).same c24
  refine ⟨_, rfl, x, dx, _, rfl, W4.hx, rfl, x, dx, l1, l2, tr, z, mo, B, rfl, W4, fun v5 H5 c5 sh5 => ?_⟩
  refine ⟨_, rfl, by show 0 ≤ sizeLine; decide, fun q1 hq1 => ⟨by show 5 ≤ sizeLine; decide, fun q2 hq2 => ⟨by show 0 ≤ sizeLine; decide, fun q3 hq3 => ⟨by show 5 ≤ sizeLine; decide, fun q4 hq4 => ⟨by show 1 ≤ sizeLine; decide, fun q5 hq5 => ?_⟩⟩⟩⟩⟩
  have e1 := same_new (o := HO.tup []) hq1
  have e2 := same_new (o := HO.tup lbT) hq2
  have e3 := same_new (o := HO.tup []) hq3
  have e4 := same_new (o := HO.tup [.int 0, .str z, .ref q1, .ref q2, .ref q3]) hq4
  have e5 := same_new (o := HO.tup [.ref q4]) hq5
  have e15 := e1.trans (e2.trans (e3.trans (e4.trans e5)))
  exact ⟨shD z, shD z, (sh5.same e15).dp, ShAt.dp ⟨q5, q4, q1, q2, q3, rfl, upd_same, e5 _ _ upd_same, e5 _ _ (e4 _ _ (e3 _ _ (e2 _ _ upd_same))), e5 _ _ (e4 _ _ (e3 _ _ upd_same)), e5 _ _ (e4 _ _ upd_same)⟩, shD_ok Z.nz, shD_ok Z.nz, _, rfl, iteF' (ne_no (shD_ok Z.nz)) (q _ _ (gs7 _ _ _ (c1.trans (c24.trans (c5.trans e15))) g))⟩
end
end Tx
set_option Elab.async false
set_option linter.all false
set_option maxRecDepth 100000
set_option maxHeartbeats 16000000
namespace Tx
open PySem PySem.Spec PyProof.Rows L2 Cm Ob LmB NdefX LamX
/-- the world as it begins, and more: R of the slots 9 to 15 -/
def TLw (T : List (Addr × Str)) (CW CT CM CR : Addr) (H0 : Hp) (a : Addr) (R : Option V → Option V → Option V → Option V → Option V → Option V → Option V → Str → Hp → Prop) : L2.St → Hp → Prop := fun σ H => ∃ l d kvs es z mo x dx l1 l2 tr B s1 s3 s7 s9 s10 s11 s12 s13 s14 s15 s16 s17 s18, σ = sL a s1 (some (.ref l)) s3 (some (.ref d)) (some (.str z)) (some (.int mo)) s7 (some (.ref x)) s9 s10 s11 s12 s13 s14 s15 s16 s17 s18 ∧ Sv T H0 l H ∧ Tz CR H d kvs es z mo ∧ WAt H CW CT CM tr z mo x dx l1 l2 B ∧ R s9 s10 s11 s12 s13 s14 s15 z H
abbrev R7 : Type := Option V → Option V → Option V → Option V → Option V → Option V → Option V → Str → Hp → Prop
def R7.Ok (R : R7) : Prop := ∀ s9 s10 s11 s12 s13 s14 s15 z H H', Same H H' → R s9 s10 s11 s12 s13 s14 s15 z H → R s9 s10 s11 s12 s13 s14 s15 z H'
theorem gsW {T : List (Addr × Str)} {CW CT CM CR : Addr} {H0 : Hp} {a : Addr} {R : R7} (hR : R7.Ok R) : Wl.Stb (TLw T CW CT CM CR H0 a R) := fun σ H H' sm ⟨l, d, kvs, es, z, mo, x, dx, l1, l2, tr, B, s1, s3, s7, s9, s10, s11, s12, s13, s14, s15, s16, s17, s18, e, S, Z, W, r⟩ => ⟨l, d, kvs, es, z, mo, x, dx, l1, l2, tr, B, s1, s3, s7, s9, s10, s11, s12, s13, s14, s15, s16, s17, s18, e, S.same sm, Z.kp (Kp.same sm), W.same sm, hR _ _ _ _ _ _ _ _ _ _ sm r⟩
/-- what is no dict of trees -/
inductive BdT (CR : Addr) (H : Hp) : V → Prop
  | non : BdT CR H .non
  | lst (p : Addr) (xs : List V) (h : H p = some (.lst xs)) (n : ∀ st, StOk st → xs ≠ st) : BdT CR H (.ref p)
  | dic (d : Addr) (kvs : List (Key × V)) (es : List (Str × Bool)) (h : H d = some (.dK kvs)) (p : EnsAt CR H kvs es) (l : kvs.length ≤ 100) (nd : ∀ kv ∈ kvs, kv.2 ≠ .ref d) (bad : (∃ e ∈ es, enB e = false) ∨ kvs.length = 0 ∨ 8 < kvs.length) : BdT CR H (.ref d)
theorem BdT.kp {CR : Addr} {H H' : Hp} {v : V} (b : BdT CR H v) (s : Kp H H') : BdT CR H' v := by
  cases b with
  | non => exact .non
  | lst p xs h n => exact .lst p xs (s _ _ h (by intro _ z; cases z) (fun st ok z => n st ok (by cases z; rfl))) n
  | dic d kvs es h p l nd bad => exact .dic d kvs es (s _ _ h (by intro _ z; cases z) (by intro _ _ z; cases z)) (p.kp s) l nd bad
theorem BdT.at {K : PySem.W.Frag} {CR : Addr} {H : Hp} {v : V} (b : BdT CR H v) : TrsAt K CR H v false := by
  cases b with
  | non => exact .oth (.base .non) (by decide +kernel)
  | lst p xs h n => exact .oth (.base (.lst h)) (by decide +kernel)
  | dic d kvs es h p l nd bad => exact trs_bad h p l nd bad
abbrev RB (CR : Addr) : Hp → V → Unit → Prop := fun H v _ => BdT CR H v
theorem stbB {CR : Addr} : Wl.StbR (RB CR) := fun H H' v _ s h => BdT.kp h (Kp.same s)
theorem merge_app : ∀ (more kvs : List (Key × V)), ((kvs ++ more).map Prod.fst).Nodup → mergeK kvs more = kvs ++ more
  | [], kvs, _ => (List.append_nil kvs).symm
  | kv :: r, kvs, h => by
    have hn : (kvs.any fun x => decide (x.1 = kv.1)) = false := by
      rw [List.any_eq_false]
      intro x hx
      rw [List.map_append, List.map_cons, List.nodup_append] at h
      have := h.2.2 x.1 (List.mem_map.mpr ⟨x, hx, rfl⟩) kv.1 List.mem_cons_self
      simpa using this
    have e : putK kvs kv.1 kv.2 = kvs ++ [kv] := by
      unfold putK
      rw [hn, if_neg (by simp)]
    show mergeK (putK kvs kv.1 kv.2) r = _
    rw [e, merge_app r (kvs ++ [kv]) (by simpa using h)]
    simp
def rOd : R7 := fun s9 _ _ _ _ _ _ _ H => ∃ v, s9 = some v ∧ OdV H v
def rNi (CR : Addr) : R7 := fun _ s10 _ _ _ _ _ _ H => ∃ v, s10 = some v ∧ BdT CR H v
def rSo (CR : Addr) : R7 := fun _ _ s11 _ _ _ _ _ H => ∃ v, s11 = some v ∧ Wl.LsAt (RB CR) H v (List.replicate 7 ())
def rBa (CR : Addr) : R7 := fun _ _ _ s12 _ _ _ _ H => ∃ v, s12 = some v ∧ BdT CR H v
theorem okNi {CR : Addr} : R7.Ok (rNi CR) := fun _ _ _ _ _ _ _ _ _ _ s ⟨v, e, h⟩ => ⟨v, e, h.kp (Kp.same s)⟩
theorem okSo {CR : Addr} : R7.Ok (rSo CR) := fun _ _ _ _ _ _ _ _ _ _ s ⟨v, e, h⟩ => ⟨v, e, Wl.stbL stbB _ _ _ _ s h⟩
theorem okBa {CR : Addr} : R7.Ok (rBa CR) := fun _ _ _ _ _ _ _ _ _ _ s ⟨v, e, h⟩ => ⟨v, e, h.kp (Kp.same s)⟩
def nineZ : List Str := ("abcdefghi" : Str).cps.toList.map fun c => ("a" : Str) ++ ⟨#[c]⟩
section
variable {P : Program} {w : World} {K : PySem.W.Frag} {mg : Str → Option Value} {base : Heap} {f c : Addr} {A : Around} {outer : List Env} {s : Shared} {H0 : Hp} {E : XK} {a CW CT CM CR : Addr} {C : Fin 4 → Addr} {T : List (Addr × Str)} {ns : List Int}
theorem hT11 (D : Lw P w K mg base T CW CT CM CR C) (hr : Room 14 (XLw P w K mg base f c A outer s H0 E).A) : Ho (XLw P w K mg base f c A outer s H0 E) (stT 11) (TL7 T CW CT CM CR H0 a) (TLw T CW CT CM CR H0 a rOd) := by
  refine ⟨_, ps_set (i := 9) scLw.nd rfl (.inl rfl) (pe_ix ix_list (pe_lst (pa_cons pe_int (pa_cons (pe_un un_neg pe_int) (pa_cons pe_bl (pa_cons pe_non (pa_cons pe_str (pa_cons (pe_lst (pa_cons pe_int pa_nil)) (pa_cons pe_dnewK (pa_cons (pe_op op_pow pe_int pe_int) pa_nil))))))))) (pe_cl D.dig hr (by decide) (by rfl) pass0 (pa_cons (pv 2) (pa_cons pe_int pa_nil))) (fun _ _ => rfl)), ?_⟩
  rintro D0 σ H ⟨l, d, kvs, es, z, mo, x, dx, l1, l2, tr, B, s1, s3, s7, s9, s10, s11, s12, s13, s14, s15, s16, s17, s18, rfl, S, Z, W⟩ q
  refine ⟨1, rfl, by show 1 ≤ sizeLine; decide, fun p1 hp1 => fun p2 hp2 => ⟨10, 30, rfl, rfl, ⟨by decide, by decide, by decide⟩, by show 8 ≤ sizeLine; decide, fun p3 hp3 => ?_⟩⟩
  have c1 := same_new (o := HO.lst [V.int 0]) hp1
  have c2 := same_new (o := HO.dK []) hp2
  have c3 := same_new (o := HO.lst [V.int 1, .int (-1), .bl true, .non, .str "0", .ref p1, .ref p2, .int (10 ^ Int.toNat 30)]) hp3
  have c13 := c1.trans (c2.trans c3)
  have S3 := S.same c13
  obtain ⟨st, hl, ok⟩ := S3.st
  refine ⟨_, rfl, l, st, _, rfl, hl, ok, by decide, by decide, fun dd st4 H4 hdd ok4 hl4 b4 => ?_⟩
  have k4 := Kp.but b4 S3.st
  have kF := (Kp.same c13).trans k4
  have hdd' : dd < 8 := by
    have z : (dd : Int) < 8 := hdd
    omega
  have hp3' : H4 p3 = some (.lst [V.int 1, .int (-1), .bl true, .non, .str "0", .ref p1, .ref p2, .int (10 ^ Int.toNat 30)]) := k4 _ _ upd_same (by intro _ z; cases z) (fun st ok z => by rcases ok with ⟨c, rfl⟩ | ⟨a, b, c, rfl⟩ <;> cases z)
  have nl1 : p1 ≠ l := fun e => by
    obtain ⟨st0, hl0, _⟩ := S.st
    rw [e, hl0] at hp1
    cases hp1
  obtain ⟨v, hv, ho⟩ : ∃ v : V, [V.int 1, .int (-1), .bl true, .non, .str "0", .ref p1, .ref p2, .int (10 ^ Int.toNat 30)][dd]? = some v ∧ OdV H4 v := by
    match dd, hdd' with
    | 0, _ => exact ⟨_, rfl, .int _ (by decide)⟩
    | 1, _ => exact ⟨_, rfl, .int _ (by decide)⟩
    | 2, _ => exact ⟨_, rfl, .bl _⟩
    | 3, _ => exact ⟨_, rfl, .non⟩
    | 4, _ => exact ⟨_, rfl, .str _⟩
    | 5, _ => exact ⟨_, rfl, .lst p1 _ (b4 p1 _ nl1 (c3 _ _ (c2 _ _ upd_same)))⟩
    | 6, _ => exact ⟨_, rfl, .dK p2 _ (k4 _ _ (c3 _ _ upd_same) (by intro _ z; cases z) (by intro _ _ z; cases z))⟩
    | 7, _ => exact ⟨_, rfl, .int _ (by decide)⟩
  exact ⟨p3, _, dd, v, rfl, rfl, SqL.of hp3', atI_nat hv, q _ _ ⟨l, d, kvs, es, z, mo, x, dx, l1, l2, tr, B, _, _, _, _, _, _, _, _, _, _, _, _, _, rfl, S3.but b4 ⟨st4, hl4, ok4⟩, Z.kp kF, W.kp kF, v, rfl, ho⟩⟩
theorem hT12 (D : Lw P w K mg base T CW CT CM CR C) (hr : Room 14 (XLw P w K mg base f c A outer s H0 E).A) : Ho (XLw P w K mg base f c A outer s H0 E) (stT 12) (TLw T CW CT CM CR H0 a rOd) (TL7 T CW CT CM CR H0 a) := by
  refine ⟨_, ps_if (pt_not (pt_val (pe_cl D.doors hr (by decide) (by rfl) pass0 (pa_cons (pv 8) (pa_cons (pv 9) pa_nil))))) (pss_one (ps_ret pe_bl)) pss_nil, ?_⟩
  rintro D0 σ H ⟨l, d, kvs, es, z, mo, x, dx, l1, l2, tr, B, s1, s3, s7, s9, s10, s11, s12, s13, s14, s15, s16, s17, s18, rfl, S, Z, W, v, rfl, ho⟩ q
  refine ⟨_, rfl, _, rfl, x, dx, l1, l2, tr, z, mo, B, v, rfl, W, ho, S.tb, fun H1 e1 t1 => ⟨_, rfl, iteF (q _ _ ⟨l, d, kvs, es, z, mo, x, dx, l1, l2, tr, B, _, _, _, _, _, _, _, _, _, _, _, _, _, rfl, S.ext e1 t1, Z.kp (Kp.ext e1), W.ext e1⟩)⟩⟩
theorem hT13 (D : Lw P w K mg base T CW CT CM CR C) (hr : Room 14 (XLw P w K mg base f c A outer s H0 E).A) : Ho (XLw P w K mg base f c A outer s H0 E) (stT 13) (TL7 T CW CT CM CR H0 a) (TLw T CW CT CM CR H0 a (rNi CR)) := by
  obtain ⟨fR, fdR, MR, FR, bR⟩ := D.mkR
  refine ⟨_, ps_set (i := 10) scLw.nd rfl (.inl rfl) (pe_callTy (call_dictP rfl) (by rfl) D.B.dict (by decide +kernel) (pa_cons (pe_lc (own := [("_law_letter", 18)]) (g := gName 18) (tt := tYes) (by rfl) scLw.nd (pi_str pe_str) (blkOk_by (own := [("_law_letter", 18)]) (N := nLw) (sc := defScope sLaw) (by decide +kernel)) (fun _ _ _ _ _ => pg_name (i := 18) scLw.nd rfl (Or.inl rfl)) (fun _ _ _ _ _ => pts_nil)
    (fun _ _ _ _ _ => pe_tup (pa_cons (pe_op op_add_str pe_str (pv 18)) (pa_cons (pe_make MR FR hr (by rfl) D.gR bR .nil passF (pa_cons pe_dnewK pa_nil)) pa_nil)))) pa_nil)), ?_⟩
  rintro D0 σ H ⟨l, d, kvs0, es, z, mo, x, dx, l1, l2, tr, B, s1, s3, s7, s9, s10, s11, s12, s13, s14, s15, s16, s17, s18, rfl, S, Z, W⟩ q
  refine ⟨"abcdefghi", rfl, fun Dc hD => lc_it walk_str (fun i H2 => Same H H2 ∧ ∃ ps kvs, H2 Dc = some (.lst (ps.map V.ref)) ∧ Tps H2 ps kvs ∧ EnsAt CR H2 kvs ((nineZ.take i).map fun z => (z, true))) ⟨same_new hD, [], [], upd_same, .nil, rfl, fun i kv e h => by cases h⟩ (fun _ _ _ _ => True.intro) ?_ ?_⟩
  · rintro i y H2' H2 hi ⟨sm2, ps, kvs, hps, htp, hen⟩ ⟨rfl, cc, hc, rfl⟩
    have hi9 : i < 9 := hi
    refine ⟨rfl, _, rfl, "a", ⟨#[cc]⟩, rfl, rfl, by show 2 ≤ sizeLine; decide, fun p3 hp3 => fun xR dR hxR hdR neR => ?_⟩
    have c3 := same_new (o := HO.dK []) hp3
    have sR : Same (upd H2 p3 (.dK [])) (upd (upd (upd H2 p3 (.dK [])) dR (.own xR)) xR (.ins CR dR [])) := fun e o h => by
      rw [upd_ne (ne_of_none h hxR), upd_ne (ne_of_none h hdR)]
      exact h
    have hnv : ∃ t' n, nv 9 (.dir []) 0 = some (t', n) := by
      obtain ⟨ks, t', n, e, h⟩ := trees5_ok (t := .dir []) (by simp [trees5])
      cases e
      exact ⟨t', n, h⟩
    obtain ⟨t', n, hnv⟩ := hnv
    have hnd : NdAt (upd (upd (upd H2 p3 (.dK [])) dR (.own xR)) xR (.ins CR dR [])) (.ref p3) (.dir []) := .dir (sR _ _ upd_same) rfl (by simp) (by decide) (by simp) (fun i kv p h => by cases h)
    refine ⟨xR, dR, .ref p3, rfl, upd_same, .inl ⟨[], hnd, ?_, fun e => by rw [hnv] at e; cases e⟩⟩
    intro t'' n'' e'' H4 N kvs4 hx4 hN4 _ b4
    have s24 : Same H2 H4 := fun e o h => b4 e o (ne_of_none (c3 _ _ h) hxR) (sR _ _ (c3 _ _ h))
    refine ⟨rfl, by show 2 ≤ sizeLine; decide, fun tp htp4 => ?_⟩
    have s5 := same_new (o := HO.tup [V.str (("a" : Str) ++ ⟨#[cc]⟩), .ref xR]) htp4
    have k25 := s24.trans s5
    have hps5 := k25 _ _ hps
    have hx5 := s5 _ _ hx4
    have htp5 : upd H4 tp (.tup [V.str (("a" : Str) ++ ⟨#[cc]⟩), .ref xR]) tp = some (.tup [V.str (("a" : Str) ++ ⟨#[cc]⟩), .ref xR]) := upd_same
    generalize hH5 : upd H4 tp (.tup [V.str (("a" : Str) ++ ⟨#[cc]⟩), .ref xR]) = H5 at *
    have ez : nineZ[i]? = some (("a" : Str) ++ ⟨#[cc]⟩) := by
      unfold nineZ
      rw [List.getElem?_map, Array.getElem?_toList, hc]
      rfl
    refine ⟨_, hps5, small1000 ?_, same_mut hD (sm2.trans k25), ps ++ [tp], kvs ++ [(Sum.inr (("a" : Str) ++ ⟨#[cc]⟩), .ref xR)], ?_, ?_, ?_⟩
    · rw [List.length_map, htp.len, hen.1, List.length_map, List.length_take]
      omega
    · rw [upd_same, List.map_append]
      rfl
    · exact Tps.updl hps5 (Tps.app (kv := (Sum.inr (("a" : Str) ++ ⟨#[cc]⟩), .ref xR)) htp5 (htp.kp (Kp.same k25)))
    · rw [take_snoc ez, List.map_append]
      exact EnsAt.updl (ens_snoc (hen.kp (Kp.same k25)) ⟨rfl, by show 2 ≤ 100000; decide, xR, rfl, .inl ⟨rfl, _, _, hx5⟩⟩) hps5
  · rintro H2 ⟨sm2, ps, kvs, hps, htp, hen⟩
    have e9 : nineZ.take ("abcdefghi" : Str).cps.size = nineZ := by decide +kernel
    rw [e9] at hen
    have hl9 : kvs.length = 9 := hen.1.trans (by decide +kernel)
    refine ⟨Dc, ps, kvs, rfl, SqL.of hps, htp.sq, fun dn hdn => ?_⟩
    have s3' := same_new (o := HO.dK (mergeK [] kvs)) hdn
    have sF := sm2.trans s3'
    have hk : kvs.map Prod.fst = nineZ.map Sum.inr := by
      have e : kvs.map Prod.fst = (nineZ.map fun z => (z, true)).map fun e => Sum.inr e.1 := by
        refine List.ext_getElem? fun i => ?_
        rw [List.getElem?_map, List.getElem?_map]
        cases q1 : kvs[i]? with
        | none =>
          have : (nineZ.map fun z => (z, true))[i]? = none := by
            rw [List.getElem?_eq_none_iff] at q1 ⊢
            rw [← hen.1]
            exact q1
          rw [this]
          rfl
        | some kv =>
          have hi : i < (nineZ.map fun z => (z, true)).length := by
            rw [← hen.1]
            exact (List.getElem?_eq_some_iff.mp q1).1
          rw [List.getElem?_eq_getElem hi]
          exact congrArg some (hen.2 i kv _ q1 (List.getElem?_eq_getElem hi)).1
      rw [e, List.map_map]
      rfl
    have hm : mergeK [] kvs = kvs := by
      refine merge_app kvs [] ?_
      rw [List.nil_append, hk]
      decide +kernel
    refine q _ _ ⟨l, d, kvs0, es, z, mo, x, dx, l1, l2, tr, B, _, _, _, _, _, _, _, _, _, _, _, _, _, rfl, S.same sF, Z.kp (Kp.same sF), W.same sF, .ref dn, rfl, .dic dn kvs _ ?_ (hen.same s3') (by omega) (ens_nd hen hdn) (.inr (.inr (by omega)))⟩
    rw [upd_same, hm]
end
end Tx
set_option Elab.async false
set_option linter.all false
set_option maxRecDepth 100000
set_option maxHeartbeats 16000000
namespace Tx
open PySem PySem.Spec PyProof.Rows L2 Cm Ob LmB NdefX LamX
/-- no greatest number -/
def NoM (v : V) : Prop := ∀ K H, NoMost K H v
/-- no first tree's name -/
def BdF (H : Hp) (v : V) : Prop := (∀ K H', Tn K H' nameB v false) ∨ ∃ p, v = .ref p ∧ H p = some (.lst [])
theorem BdF.kp {H H' : Hp} {v : V} (b : BdF H v) (s : Kp H H') : BdF H' v := by
  rcases b with b | ⟨p, e, h⟩
  · exact .inl b
  · exact .inr ⟨p, e, s _ _ h (by intro _ z; cases z) (fun _ ok => nil_st ok)⟩
theorem BdF.at {K : PySem.W.Frag} {H : Hp} {v : V} (b : BdF H v) : Tn K H nameB v false := by
  rcases b with b | ⟨p, rfl, h⟩
  · exact b K H
  · exact .other (.base (.lst h)) (by decide +kernel)
theorem tn_str {z : Str} (h : nameB z = false) (hl : z.length ≤ 1000) : ∀ K H', Tn K H' nameB (.str z) false := fun K H' => by
  have t := Tn.str (K := K) (H := H') (f := nameB) z (by omega)
  rw [h] at t
  exact t
def rN (CR : Addr) : R7 := fun _ _ _ s12 s13 _ _ _ H => ∃ v u, s12 = some v ∧ BdT CR H v ∧ s13 = some u ∧ NoM u
def rF (CR : Addr) : R7 := fun _ _ _ s12 s13 s14 _ _ H => ∃ v u y, s12 = some v ∧ BdT CR H v ∧ s13 = some u ∧ NoM u ∧ s14 = some y ∧ BdF H y
section
variable {P : Program} {w : World} {K : PySem.W.Frag} {mg : Str → Option Value} {base : Heap} {f c : Addr} {A : Around} {outer : List Env} {s : Shared} {H0 : Hp} {E : XK} {a CW CT CM CR : Addr} {C : Fin 4 → Addr} {T : List (Addr × Str)} {ns : List Int}
/-- a dict of trees with one entry more -/
theorem bd_put {H : Hp} {d : Addr} {kvs : List (Key × V)} {es : List (Str × Bool)} {zt : Str} {mo : Int} {z : Str} {b : Bool} {v : V} {p : Addr} (Z : Tz CR H d kvs es zt mo) (n : EnAt CR H (Sum.inr z, v) (z, b)) (hb : enB (z, b) = false) (hp : H p = none) : BdT CR (upd H p (.dK (mergeK kvs [(Sum.inr z, v)]))) (.ref p) := by
  obtain ⟨es', e1, _, e3, _⟩ := ens_put Z.w.en n
  have hl : (mergeK kvs [(Sum.inr z, v)]).length ≤ 100 := by
    have := length_mergeK [((Sum.inr z : Key), v)] kvs
    have := Z.k3
    simp only [List.length_cons, List.length_nil] at *
    omega
  exact .dic p _ es' upd_same (EnsAt.same e1 (same_new hp)) hl (ens_nd e1 hp) (.inl ⟨_, e3, hb⟩)
theorem nv0 : ∃ t' n, nv 9 (.dir []) 0 = some (t', n) := by
  obtain ⟨ks, t', n, e, h⟩ := trees5_ok (t := .dir []) (by simp [trees5])
  cases e
  exact ⟨t', n, h⟩
/-- trees | {k: Tree({})} -/
theorem pe_orT {R : R7} (D : Lw P w K mg base T CW CT CM CR C) (hr : Room 14 (XLw P w K mg base f c A outer s H0 E).A) {k : Str} {j : Nat} {p1 p2 p3 p4 p5 p6 p7 : Pos} (hk : nameB k = false) (hl : k.length ≤ 1000) (hv : PE (XLw P w K mg base f c A outer s H0 E) (.Name "_law_trees" p1) (tVar 4)) :
    PE (XLw P w K mg base f c A outer s H0 E) (.BinOp (.Name "_law_trees" p1) .BitOr (.Dict [some (.Constant (.str k) j p2)] [.Call (.Name "Tree" p3) [.Dict [] [] p4] [] p5] p6) p7) (Wl.tE (TLw T CW CT CM CR H0 a R) (RB CR) ()) := by
  obtain ⟨fR, fdR, MR, FR, bR⟩ := D.mkR
  refine Wl.PE.weak (pe_op Io.op_orD hv (pe_disp (pps_cons pe_str (pe_make MR FR hr (by rfl) D.gR bR .nil passF (pa_cons pe_dnewK pa_nil)) pps_nil) rfl rfl (by simp) (by simp))) fun σ H Q ⟨g, q⟩ => ?_
  obtain ⟨l, d, kvs, es, z, mo, x, dx, l1, l2, tr, B, s1, s3, s7, s9, s10, s11, s12, s13, s14, s15, s16, s17, s18, rfl, S, Z, W, r⟩ := g
  refine ⟨_, rfl, fun pd hpd => fun p3' hp3 => fun xR dR hxR hdR neR => ?_⟩
  have c1 := same_new (o := HO.dK []) hpd
  have c3 := same_new (o := HO.dK []) hp3
  have c13 := c1.trans c3
  generalize hH1 : upd (upd H pd (.dK [])) p3' (.dK []) = H1 at *
  have sR : Same H1 (upd (upd H1 dR (.own xR)) xR (.ins CR dR [])) := fun e o h => by
    rw [upd_ne (ne_of_none h hxR), upd_ne (ne_of_none h hdR)]
    exact h
  have hp31 : H1 p3' = some (.dK []) := by rw [← hH1]; exact upd_same
  have hpd1 : H1 pd = some (.dK []) := c3 _ _ upd_same
  obtain ⟨t', n, hnv⟩ := nv0
  have hnd : NdAt (upd (upd H1 dR (.own xR)) xR (.ins CR dR [])) (.ref p3') (.dir []) := .dir (sR _ _ hp31) rfl (by simp) (by decide) (by simp) (fun i kv p h => by cases h)
  refine ⟨xR, dR, .ref p3', rfl, upd_same, .inl ⟨[], hnd, ?_, fun e => by rw [hnv] at e; cases e⟩⟩
  intro t'' n'' e'' H4 N kvs4 hx4 hN4 _ b4
  have s14' : Same H1 H4 := fun e o h => b4 e o (ne_of_none h hxR) (sR _ _ h)
  have sH4 : Same H H4 := c13.trans s14'
  have hpd4 := s14' _ _ hpd1
  refine ⟨rfl, hpd4, [(Sum.inr k, .ref xR)], rfl, by show 1 ≤ 15; decide, ?_⟩
  have nxp : xR ≠ pd := ne_of hx4 hpd4 (by intro z; cases z)
  have sF : Same H (upd H4 pd (.dK (mergeK [] [(Sum.inr k, .ref xR)]))) := same_mut hpd sH4
  have ZF := Z.kp (Kp.same sF)
  refine ⟨d, pd, kvs, [(Sum.inr k, .ref xR)], rfl, rfl, ZF.w.hd, upd_same, by have := Z.k3; show kvs.length + 1 ≤ 1000; omega, fun p hp => ?_⟩
  refine q _ _ (sF.trans (same_new hp)) (bd_put ZF (b := true) ⟨rfl, by show k.length ≤ 100000; omega, xR, rfl, .inl ⟨rfl, _, _, by rw [upd_ne nxp]; exact hx4⟩⟩ (by show (nameB k && true) = false; rw [hk]; rfl) hp)
/-- trees | {top: {}} -/
theorem pe_orE {R : R7} (D : Lw P w K mg base T CW CT CM CR C) {p1 p2 p4 p6 p7 : Pos} (hv : PE (XLw P w K mg base f c A outer s H0 E) (.Name "_law_trees" p1) (tVar 4)) (ht : PE (XLw P w K mg base f c A outer s H0 E) (.Name "_law_top" p2) (tVar 5)) :
    PE (XLw P w K mg base f c A outer s H0 E) (.BinOp (.Name "_law_trees" p1) .BitOr (.Dict [some (.Name "_law_top" p2)] [.Dict [] [] p4] p6) p7) (Wl.tE (TLw T CW CT CM CR H0 a R) (RB CR) ()) := by
  refine Wl.PE.weak (pe_op Io.op_orD hv (pe_disp (pps_cons ht pe_dnewK pps_nil) rfl rfl (by simp) (by simp))) fun σ H Q ⟨g, q⟩ => ?_
  obtain ⟨l, d, kvs, es, z, mo, x, dx, l1, l2, tr, B, s1, s3, s7, s9, s10, s11, s12, s13, s14, s15, s16, s17, s18, rfl, S, Z, W, r⟩ := g
  refine ⟨_, rfl, fun pd hpd => ⟨_, rfl, fun p3' hp3 => ?_⟩⟩
  have c1 := same_new (o := HO.dK []) hpd
  have c3 := same_new (o := HO.dK []) hp3
  have np : pd ≠ p3' := ne_of_none (upd_same (H := H) (a := pd) (o := HO.dK [])) hp3
  refine ⟨c3 _ _ upd_same, [(Sum.inr z, .ref p3')], rfl, by show 1 ≤ 15; decide, ?_⟩
  have sF : Same H (upd (upd (upd H pd (.dK [])) p3' (.dK [])) pd (.dK (mergeK [] [(Sum.inr z, .ref p3')]))) := same_mut hpd (c1.trans c3)
  have ZF := Z.kp (Kp.same sF)
  refine ⟨d, pd, kvs, [(Sum.inr z, .ref p3')], rfl, rfl, ZF.w.hd, upd_same, by have := Z.k3; show kvs.length + 1 ≤ 1000; omega, fun p hp => ?_⟩
  refine q _ _ (sF.trans (same_new hp)) (bd_put ZF (b := false) ⟨rfl, by have := Z.lz; show z.length ≤ 100000; omega, p3', rfl, .inr ⟨rfl, [], by rw [upd_ne (Ne.symm np)]; exact upd_same⟩⟩ (by show (nameB z && false) = false; simp) hp)
theorem hT14 (D : Lw P w K mg base T CW CT CM CR C) (hr : Room 14 (XLw P w K mg base f c A outer s H0 E).A) : Ho (XLw P w K mg base f c A outer s H0 E) (stT 14) (TLw T CW CT CM CR H0 a (rNi CR)) (TLw T CW CT CM CR H0 a (rSo CR)) := by
  have gs := gsW (T := T) (CW := CW) (CT := CT) (CM := CM) (CR := CR) (H0 := H0) (a := a) (okNi (CR := CR))
  refine Wl.ho_set (i := 11) (w := [(), (), (), (), (), (), ()]) (R := Wl.LsAt (RB CR)) scLw.nd rfl (.inl rfl) (Wl.pe_l stbB (by decide)
    (Wl.pa_c gs stbB (Wl.PE.weak pe_non fun σ H Q g => g.2 _ _ (Same.refl H) .non)
    (Wl.pa_c gs stbB (Wl.PE.weak pe_dnewK fun σ H Q g p hp => g.2 _ _ (same_new hp) (.dic p [] [] upd_same ⟨rfl, fun i kv e h => by cases h⟩ (by decide) (by simp) (.inr (.inl rfl))))
    (Wl.pa_c gs stbB (Wl.pe_n (pv 10) fun σ H g => by
      obtain ⟨l, d, kvs, es, z, mo, x, dx, l1, l2, tr, B, s1, s3, s7, s9, s10, s11, s12, s13, s14, s15, s16, s17, s18, rfl, S, Z, W, v, rfl, hb⟩ := g
      exact ⟨v, rfl, hb⟩)
    (Wl.pa_c gs stbB (Wl.PE.weak (pe_lst (pa_cons (pv 5) pa_nil)) fun σ H Q ⟨g, q⟩ => by
      obtain ⟨l, d, kvs, es, z, mo, x, dx, l1, l2, tr, B, s1, s3, s7, s9, s10, s11, s12, s13, s14, s15, s16, s17, s18, rfl, S, Z, W, v, rfl, hb⟩ := g
      exact ⟨_, rfl, by show 1 ≤ sizeLine; decide, fun p hp => q _ _ (same_new hp) (.lst p _ upd_same fun st ok z => by rcases ok with ⟨c, rfl⟩ | ⟨a, b, c, rfl⟩ <;> cases z)⟩)
    (Wl.pa_c gs stbB (pe_orT D hr (by decide +kernel) (by decide +kernel) (pv 4))
    (Wl.pa_c gs stbB (pe_orE D (pv 4) (pv 5))
    (Wl.pa_c gs stbB (pe_orT D hr (by decide +kernel) (by decide +kernel) (pv 4)) (Wl.pa_n _ _))))))))) ?_
  rintro σ H v H' ⟨l, d, kvs, es, z, mo, x, dx, l1, l2, tr, B, s1, s3, s7, s9, s10, s11, s12, s13, s14, s15, s16, s17, s18, rfl, S, Z, W, r⟩ sm hv
  exact ⟨l, d, kvs, es, z, mo, x, dx, l1, l2, tr, B, _, _, _, _, _, _, _, _, _, _, _, _, _, rfl, S.same sm, Z.kp (Kp.same sm), W.same sm, v, rfl, hv⟩
theorem hT15 (D : Lw P w K mg base T CW CT CM CR C) (hr : Room 14 (XLw P w K mg base f c A outer s H0 E).A) : Ho (XLw P w K mg base f c A outer s H0 E) (stT 15) (TLw T CW CT CM CR H0 a (rSo CR)) (TLw T CW CT CM CR H0 a (rBa CR)) := by
  have gs := gsW (T := T) (CW := CW) (CT := CT) (CM := CM) (CR := CR) (H0 := H0) (a := a) (okSo (CR := CR))
  refine ⟨_, ps_set (i := 12) scLw.nd rfl (.inr rfl) (pe_ix ix_list (Wl.pe_cat (ws := List.replicate 7 ()) (us := [()]) gs stbB (by decide) (Wl.pe_n (R := Wl.LsAt (RB CR)) (pv 11) fun σ H g => by
      obtain ⟨l, d, kvs, es, z, mo, x, dx, l1, l2, tr, B, s1, s3, s7, s9, s10, s11, s12, s13, s14, s15, s16, s17, s18, rfl, S, Z, W, v, rfl, hb⟩ := g
      exact ⟨v, rfl, hb⟩) (Wl.pe_l stbB (by decide) (Wl.pa_c gs stbB (pe_orT D hr (by decide +kernel) (by decide +kernel) (pv 4)) (Wl.pa_n _ _)))) (pe_cl D.dig hr (by decide) (by rfl) pass0 (pa_cons (pv 2) (pa_cons pe_int pa_nil))) (fun _ _ => rfl)), ?_⟩
  rintro D0 σ H g q
  refine ⟨g, fun u H1 c1 r1 => ?_⟩
  obtain ⟨l, d, kvs, es, z, mo, x, dx, l1, l2, tr, B, s1, s3, s7, s9, s10, s11, s12, s13, s14, s15, s16, s17, s18, rfl, S, Z, W, r⟩ := g
  obtain ⟨p, xs, rfl, hp, pd⟩ := r1
  have S1 := S.same c1
  obtain ⟨st, hl, ok⟩ := S1.st
  refine ⟨_, rfl, l, st, _, rfl, hl, ok, by decide, by decide, fun dd st4 H4 hdd ok4 hl4 b4 => ?_⟩
  have k4 := Kp.but b4 S1.st
  have kF := (Kp.same c1).trans k4
  have hlen : xs.length = 8 := Wl.pd_len (R := RB CR) pd
  have hdd' : dd < xs.length := by
    have z : (dd : Int) < 8 := hdd
    omega
  obtain ⟨_, _, hb⟩ := pd_at pd (List.getElem?_eq_getElem hdd')
  have hpl : p ≠ l := fun e => by
    rw [e, hl] at hp
    cases hp
    rcases ok with ⟨c, rfl⟩ | ⟨a, b, c, rfl⟩
    · simp at hlen
    · simp at hlen
  exact ⟨p, xs, dd, xs[dd], rfl, rfl, SqL.of (b4 p _ hpl hp), atI_nat (List.getElem?_eq_getElem hdd'), q _ _ ⟨l, d, kvs, es, z, mo, x, dx, l1, l2, tr, B, _, _, _, _, _, _, _, _, _, _, _, _, _, rfl, S1.but b4 ⟨st4, hl4, ok4⟩, Z.kp kF, W.kp kF, xs[dd], rfl, BdT.kp hb k4⟩⟩
theorem hT16 (D : Lw P w K mg base T CW CT CM CR C) (hr : Room 14 (XLw P w K mg base f c A outer s H0 E).A) : Ho (XLw P w K mg base f c A outer s H0 E) (stT 16) (TLw T CW CT CM CR H0 a (rBa CR)) (TLw T CW CT CM CR H0 a (rN CR)) := by
  refine ⟨_, ps_set (i := 13) scLw.nd rfl (.inr rfl) (pe_ix ix_list (pe_lst (pa_cons pe_int (pa_cons pe_int (pa_cons pe_bl (pa_cons pe_non (pa_cons pe_str (pa_cons (pe_un un_neg pe_int) pa_nil))))))) (pe_cl D.dig hr (by decide) (by rfl) pass0 (pa_cons (pv 2) (pa_cons pe_int pa_nil))) (fun _ _ => rfl)), ?_⟩
  rintro D0 σ H ⟨l, d, kvs, es, z, mo, x, dx, l1, l2, tr, B, s1, s3, s7, s9, s10, s11, s12, s13, s14, s15, s16, s17, s18, rfl, S, Z, W, v, rfl, hb⟩ q
  refine ⟨1, rfl, by show 6 ≤ sizeLine; decide, fun p3 hp3 => ?_⟩
  have c3 := same_new (o := HO.lst [V.int 0, .int 5001, .bl true, .non, .str "9", .int (-1)]) hp3
  have S3 := S.same c3
  obtain ⟨st, hl, ok⟩ := S3.st
  refine ⟨_, rfl, l, st, _, rfl, hl, ok, by decide, by decide, fun dd st4 H4 hdd ok4 hl4 b4 => ?_⟩
  have k4 := Kp.but b4 S3.st
  have kF := (Kp.same c3).trans k4
  have hdd' : dd < 6 := by
    have z : (dd : Int) < 6 := hdd
    omega
  have hp3' : H4 p3 = some (.lst [V.int 0, .int 5001, .bl true, .non, .str "9", .int (-1)]) := k4 _ _ upd_same (by intro _ z; cases z) (fun st ok z => by rcases ok with ⟨c, rfl⟩ | ⟨a, b, c, rfl⟩ <;> cases z)
  obtain ⟨u, hu, ho⟩ : ∃ u : V, [V.int 0, .int 5001, .bl true, .non, .str "9", .int (-1)][dd]? = some u ∧ NoM u := by
    match dd, hdd' with
    | 0, _ => exact ⟨_, rfl, fun K H => .int 0 1 5000⟩
    | 1, _ => exact ⟨_, rfl, fun K H => .int 5001 1 5000⟩
    | 2, _ => exact ⟨_, rfl, fun K H => .bl true 1 5000⟩
    | 3, _ => exact ⟨_, rfl, fun K H => .other 1 5000 (.base .non) (by decide +kernel)⟩
    | 4, _ => exact ⟨_, rfl, fun K H => .other 1 5000 (.base (.str "9")) (by decide +kernel)⟩
    | 5, _ => exact ⟨_, rfl, fun K H => .int (-1) 1 5000⟩
  exact ⟨p3, _, dd, u, rfl, rfl, SqL.of hp3', atI_nat hu, q _ _ ⟨l, d, kvs, es, z, mo, x, dx, l1, l2, tr, B, _, _, _, _, _, _, _, _, _, _, _, _, _, rfl, S3.but b4 ⟨st4, hl4, ok4⟩, Z.kp kF, W.kp kF, v, u, rfl, hb.kp kF, rfl, ho⟩⟩
theorem long_no {z y : Str} (h : 8 < (z ++ y).length) : nameB (z ++ y) = false := by
  unfold nameB
  rw [decide_eq_false (by omega : ¬ (((z ++ y).length : Nat) : Int) ≤ 8)]
  simp
theorem hT17 (D : Lw P w K mg base T CW CT CM CR C) (hr : Room 14 (XLw P w K mg base f c A outer s H0 E).A) : Ho (XLw P w K mg base f c A outer s H0 E) (stT 17) (TLw T CW CT CM CR H0 a (rN CR)) (TLw T CW CT CM CR H0 a (rF CR)) := by
  refine ⟨_, ps_set (i := 14) scLw.nd rfl (.inr rfl) (pe_ix ix_list (pe_lst (pa_cons pe_str (pa_cons pe_non (pa_cons (pe_op op_add_str (pv 5) (pe_op op_mulS pe_str pe_int)) (pa_cons pe_int (pa_cons (pe_lst pa_nil) (pa_cons pe_str (pa_cons (pe_op op_add_str (pv 5) pe_str) pa_nil)))))))) (pe_cl D.dig hr (by decide) (by rfl) pass0 (pa_cons (pv 2) (pa_cons pe_int pa_nil))) (fun _ _ => rfl)), ?_⟩
  rintro D0 σ H ⟨l, d, kvs, es, z, mo, x, dx, l1, l2, tr, B, s1, s3, s7, s9, s10, s11, s12, s13, s14, s15, s16, s17, s18, rfl, S, Z, W, v, u, rfl, hb, rfl, hu⟩ q
  have lz := Z.lz
  have x8 : (Txt.mul "x" 8).length = 8 := by decide +kernel
  refine ⟨_, rfl, "x", 8, rfl, rfl, mulOk_of 100 8 (by decide) (by decide) (by decide) (by decide) (by decide), _, _, rfl, rfl, Nat.le_of_lt (small1000 (by rw [x8]; omega)), by show 0 ≤ sizeLine; decide, fun p1 hp1 => ?_⟩
  refine ⟨_, rfl, _, _, rfl, rfl, Nat.le_of_lt (small1000 (by show z.length + 1 ≤ 1000; omega)), by show 7 ≤ sizeLine; decide, fun p3 hp3 => ?_⟩
  have c1 := same_new (o := HO.lst []) hp1
  have c3 := same_new (o := HO.lst [V.str "A", .non, .str (z ++ Txt.mul "x" 8), .int 5, .ref p1, .str "", .str (z ++ "\n")]) hp3
  have c13 := c1.trans c3
  have S3 := S.same c13
  obtain ⟨st, hl, ok⟩ := S3.st
  refine ⟨_, rfl, l, st, _, rfl, hl, ok, by decide, by decide, fun dd st4 H4 hdd ok4 hl4 b4 => ?_⟩
  have k4 := Kp.but b4 S3.st
  have kF := (Kp.same c13).trans k4
  have hdd' : dd < 7 := by
    have z : (dd : Int) < 7 := hdd
    omega
  have hp3' : H4 p3 = some (.lst [V.str "A", .non, .str (z ++ Txt.mul "x" 8), .int 5, .ref p1, .str "", .str (z ++ "\n")]) := k4 _ _ upd_same (by intro _ z; cases z) (fun st ok z => by rcases ok with ⟨c, rfl⟩ | ⟨a, b, c, rfl⟩ <;> cases z)
  have z1 : 1 ≤ z.length := by
    have := Z.nz
    unfold nameB at this
    simp only [Bool.and_eq_true, decide_eq_true_eq] at this
    omega
  obtain ⟨y, hy, hf⟩ : ∃ y : V, [V.str "A", .non, .str (z ++ Txt.mul "x" 8), .int 5, .ref p1, .str "", .str (z ++ "\n")][dd]? = some y ∧ BdF H4 y := by
    match dd, hdd' with
    | 0, _ => exact ⟨_, rfl, .inl (tn_str (by decide +kernel) (by decide +kernel))⟩
    | 1, _ => exact ⟨_, rfl, .inl fun K H => .other (.base .non) (by decide +kernel)⟩
    | 2, _ => exact ⟨_, rfl, .inl (tn_str (long_no (by rw [Str.length_append, x8]; omega)) (by rw [Str.length_append, x8]; omega))⟩
    | 3, _ => exact ⟨_, rfl, .inl fun K H => .other (.base (.int 5)) (by decide +kernel)⟩
    | 4, _ => exact ⟨_, rfl, .inr ⟨p1, rfl, k4 _ _ (c3 _ _ upd_same) (by intro _ z; cases z) (fun _ ok => nil_st ok)⟩⟩
    | 5, _ => exact ⟨_, rfl, .inl (tn_str (by decide +kernel) (by decide +kernel))⟩
    | 6, _ =>
      refine ⟨_, rfl, .inl (tn_str ?_ (by rw [Str.length_append]; show z.length + 1 ≤ 1000; omega))⟩
      unfold nameB
      have : ((z ++ "\n").cps.toList.map signB).all id = false := by
        rw [List.all_eq_false]
        refine ⟨false, List.mem_map.mpr ⟨10, ?_, by decide +kernel⟩, by simp⟩
        rw [Str.cps_append, Array.toList_append]
        exact List.mem_append_right _ (by decide +kernel)
      rw [this]
      simp
  exact ⟨p3, _, dd, y, rfl, rfl, SqL.of hp3', atI_nat hy, q _ _ ⟨l, d, kvs, es, z, mo, x, dx, l1, l2, tr, B, _, _, _, _, _, _, _, _, _, _, _, _, _, rfl, S3.but b4 ⟨st4, hl4, ok4⟩, Z.kp kF, W.kp kF, v, u, y, rfl, hb.kp kF, rfl, hu, rfl, hf⟩⟩
end
end Tx
set_option Elab.async false
set_option linter.all false
set_option maxRecDepth 100000
set_option maxHeartbeats 16000000
namespace Tx
open PySem PySem.Spec PyProof.Rows L2 Cm Ob LmB NdefX LamX
/-! ### the lambdas of law -/
def exW : Stmt → Expr
  | .Assign _ (.List [.Call _ [e] _ _] _) _ => e
  | .Expr (.Call _ [.Call _ [e] _ _] _ _) _ => e
  | _ => .Constant .none 0 ⟨0, 0, 0, 0⟩
def eW (i : Nat) : Expr := exW (stT (18 + i))
abbrev frW0 : List Str := ["_law_bad", "_law_top", "_law_none"]
theorem nsW0 : NScope frW0 [] frW0 (lScope (eW 0)) := nscope_by (by decide +kernel)
theorem lamW0 : LamS (defScope sLaw) (lScope (eW 0)) := lamS_by (by decide +kernel)
abbrev frW1 : List Str := ["_law_trees", "_law_other", "_law_none"]
theorem nsW1 : NScope frW1 [] frW1 (lScope (eW 1)) := nscope_by (by decide +kernel)
theorem lamW1 : LamS (defScope sLaw) (lScope (eW 1)) := lamS_by (by decide +kernel)
abbrev frW2 : List Str := ["_law_trees", "_law_top", "_law_none"]
theorem nsW2 : NScope frW2 [] frW2 (lScope (eW 2)) := nscope_by (by decide +kernel)
theorem lamW2 : LamS (defScope sLaw) (lScope (eW 2)) := lamS_by (by decide +kernel)
abbrev frW3 : List Str := ["_law_trees", "_law_top"]
theorem nsW3 : NScope frW3 [] frW3 (lScope (eW 3)) := nscope_by (by decide +kernel)
theorem lamW3 : LamS (defScope sLaw) (lScope (eW 3)) := lamS_by (by decide +kernel)
def spW0 (CR : Addr) (C : Fin 4 → Addr) : LSp := fun ws H Q E => ∃ b t n, ws = [some b, some t, some n] ∧ BdT CR H b ∧ ∀ H', Same H H' → E (.ref (C 0)) none H'
def spW1 (CR : Addr) (C : Fin 4 → Addr) : LSp := fun ws H Q E => ∃ d kvs es z mo y n, ws = [some (.ref d), some y, some n] ∧ Tz CR H d kvs es z mo ∧ BdF H y ∧ ∀ H', Same H H' → E (.ref (C 0)) none H'
def spW2 (CR : Addr) (C : Fin 4 → Addr) : LSp := fun ws H Q E => ∃ d kvs es z mo n, ws = [some (.ref d), some (.str z), some n] ∧ Tz CR H d kvs es z mo ∧ NoM n ∧ ∀ H', Same H H' → E (.ref (C 1)) none H'
def spW3 (CR : Addr) (C : Fin 4 → Addr) : LSp := fun ws H Q E => ∃ d kvs es z mo, ws = [some (.ref d), some (.str z)] ∧ Tz CR H d kvs es z mo ∧ ∀ v H', Same H H' → Q v H'
section
variable {P : Program} {w : World} {K : PySem.W.Frag} {mg : Str → Option Value} {base : Heap} {CW CT CM CR : Addr} {C : Fin 4 → Addr} {T : List (Addr × Str)} {qual : Str} {cl : List (Str × Addr)}
theorem same_ins {H : Hp} {C x dx : Addr} (hx : H x = none) (hd : H dx = none) : Same H (upd (upd H dx (.own x)) x (.ins C dx [])) := fun e o h => by
  rw [upd_ne (ne_of_none h hx), upd_ne (ne_of_none h hd)]
  exact h
theorem lokW0 (D : Lw P w K mg base T CW CT CM CR C) (g d' : Addr) : LOk P w K mg base (L2.CX P w) 9 g (LF qual (lPar (eW 0)) (lScope (eW 0)) cl d') (lBody (eW 0)) frW0 (spW0 CR C) := by
  obtain ⟨fW, fdW, ds, its, MW, FW, ⟨bW, vW⟩, kW⟩ := D.mkW
  refine lok_of nsW0 (fun _ _ _ => rfl) fun A outer s H ws Q E hr _ h => ?_
  obtain ⟨b, t, n, rfl, hb, q⟩ := h
  refine ⟨_, pe_make MW FW hr (by rfl) D.gW bW vW (passes_call (takes_of rfl rfl rfl rfl) (fun _ _ _ _ h => h)) (pa_cons (pv 0) (pa_cons (pv 1) (pa_cons (pv 2) pa_nil))), ?_⟩
  refine ⟨_, rfl, _, rfl, _, rfl, fun x dx hx hdx ne => ?_⟩
  have sW := same_ins (C := CW) hx hdx
  exact ⟨x, .trees b t n rfl (hb.kp (Kp.same sW)).at fun H' s' => q H' (sW.trans s')⟩
theorem lokW1 (D : Lw P w K mg base T CW CT CM CR C) (g d' : Addr) : LOk P w K mg base (L2.CX P w) 9 g (LF qual (lPar (eW 1)) (lScope (eW 1)) cl d') (lBody (eW 1)) frW1 (spW1 CR C) := by
  obtain ⟨fW, fdW, ds, its, MW, FW, ⟨bW, vW⟩, kW⟩ := D.mkW
  refine lok_of nsW1 (fun _ _ _ => rfl) fun A outer s H ws Q E hr _ h => ?_
  obtain ⟨d, kvs, es, z, mo, y, n, rfl, Z, hy, q⟩ := h
  refine ⟨_, pe_make MW FW hr (by rfl) D.gW bW vW (passes_call (takes_of rfl rfl rfl rfl) (fun _ _ _ _ h => h)) (pa_cons (pv 0) (pa_cons (pv 1) (pa_cons (pv 2) pa_nil))), ?_⟩
  refine ⟨_, rfl, _, rfl, _, rfl, fun x dx hx hdx ne => ?_⟩
  have sW := same_ins (C := CW) hx hdx
  exact ⟨x, .first (.ref d) y n rfl (Z.kp (Kp.same sW)).w.at (fun H' s' => (hy.kp (Kp.same (sW.trans s'))).at) fun H' s' => q H' (sW.trans s')⟩
theorem lokW2 (D : Lw P w K mg base T CW CT CM CR C) (g d' : Addr) : LOk P w K mg base (L2.CX P w) 9 g (LF qual (lPar (eW 2)) (lScope (eW 2)) cl d') (lBody (eW 2)) frW2 (spW2 CR C) := by
  obtain ⟨fW, fdW, ds, its, MW, FW, ⟨bW, vW⟩, kW⟩ := D.mkW
  refine lok_of nsW2 (fun _ _ _ => rfl) fun A outer s H ws Q E hr _ h => ?_
  obtain ⟨d, kvs, es, z, mo, n, rfl, Z, hn, q⟩ := h
  refine ⟨_, pe_make MW FW hr (by rfl) D.gW bW vW (passes_call (takes_of rfl rfl rfl rfl) (fun _ _ _ _ h => h)) (pa_cons (pv 0) (pa_cons (pv 1) (pa_cons (pv 2) pa_nil))), ?_⟩
  refine ⟨_, rfl, _, rfl, _, rfl, fun x dx hx hdx ne => ?_⟩
  have sW := same_ins (C := CW) hx hdx
  exact ⟨x, .most d kvs es z n rfl (Z.kp (Kp.same sW)).w Z.nz (by have := Z.lz; omega) Z.zin (fun H' s' => hn K H') fun H' s' => q H' (sW.trans s')⟩
theorem lokW3 (D : Lw P w K mg base T CW CT CM CR C) (g d' : Addr) : LOk P w K mg base (L2.CX P w) 9 g (LF qual (lPar (eW 3)) (lScope (eW 3)) cl d') (lBody (eW 3)) frW3 (spW3 CR C) := by
  obtain ⟨fW, fdW, ds, its, MW, FW, ⟨bW, vW⟩, kW⟩ := D.mkW
  refine lok_of nsW3 (fun _ _ _ => rfl) fun A outer s H ws Q E hr _ h => ?_
  obtain ⟨d, kvs, es, z, mo, rfl, Z, q⟩ := h
  refine ⟨_, pe_makeN MW FW hr (by rfl) D.gW kW (passes_call (takes_of rfl rfl rfl rfl) (fun _ _ _ _ h => h)) (pa_cons (pv 0) pa_nil) (pk_cons (pv 1) pk_nil), ?_⟩
  refine ⟨_, rfl, _, rfl, rfl, rfl, fun x dx hx hdx ne => ?_⟩
  have sW := same_ins (C := CW) hx hdx
  have ZW := Z.kp (Kp.same sW)
  refine ⟨x, .good dx d kvs es z 1000 rfl ⟨upd_same, ZW.w, Z.nz, by have := Z.lz; omega, Z.zin, ens_nd Z.w.en hx, by decide, by decide⟩ fun H' l1 l2 B tr b ntr W' => ⟨rfl, q _ _ fun e o h => b e o (ne_of_none h hx) (sW _ _ h)⟩⟩
end
def wds : List Str := ["tree", "tree", "number", "told"]
def TLv (T : List (Addr × Str)) (CR : Addr) (H0 : Hp) (a : Addr) (n : Nat) : L2.St → Hp → Prop := fun σ H => ∃ l d kvs es z mo v u y pw H1 s1 s3 s7 s8 s9 s10 s11 s16 s17 s18, σ = sL a s1 (some (.ref l)) s3 (some (.ref d)) (some (.str z)) (some (.int mo)) s7 s8 s9 s10 s11 (some v) (some u) (some y) (some (.ref pw)) s16 s17 s18 ∧ Sv T H0 l H ∧ Fsh H0 pw ∧ Tz CR H1 d kvs es z mo ∧ BdT CR H1 v ∧ NoM u ∧ BdF H1 y ∧ H1 pw = none ∧ Kp H1 H ∧ H pw = some (.lst ((wds.take n).map V.str))
theorem kp_upd {H1 H : Hp} {p : Addr} {o : HO} (k : Kp H1 H) (h : H1 p = none) : Kp H1 (upd H p o) := fun b u hb n m => by
  rw [upd_ne (ne_of_none hb h)]
  exact k b u hb n m
section
variable {P : Program} {w : World} {K : PySem.W.Frag} {mg : Str → Option Value} {base : Heap} {f c Pt : Addr} {A : Around} {outer : List Env} {s : Shared} {H0 : Hp} {E : XK} {a CW CT CM CR : Addr} {C : Fin 4 → Addr} {T : List (Addr × Str)} {ns : List Int}
abbrev clW0 (X : Cx) : List (Str × Addr) := cloFrom X.env.cells (lScope (eW 0)).names []
def kW0 (X : Cx) (CR : Addr) (C : Fin 4 → Addr) : LKind := ⟨LF (X.env.qual ++ "<lambda>") (lPar (eW 0)) (lScope (eW 0)) (clW0 X), lBody (eW 0), spW0 CR C⟩
theorem capsW0 (ok : (XLw P w K mg base f c A outer s H0 E).Ok) : Caps (XLw P w K mg base f c A outer s H0 E) (clW0 (XLw P w K mg base f c A outer s H0 E)) frW0 [12, 5, 13] := Caps.made ok lamW0.free (by decide +kernel) rfl
theorem peW0 (D : Lw P w K mg base T CW CT CM CR C) (L : LmT base mg T c Pt lamQL) (hr : Room 14 (XLw P w K mg base f c A outer s H0 E).A) {p lp pos : Pos} (hdef : defaultsOf (lPar (eW 0)) (XLw P w K mg base f c A outer s H0 E).env = ([], [])) : PE (XLw P w K mg base f c A outer s H0 E) (.Call (.Name "_law_word" p) [.Lambda (lPar (eW 0)) (lBody (eW 0)) (lScope (eW 0)) lp] [] pos) (tGive (clW0 (XLw P w K mg base f c A outer s H0 E)) [kW0 (XLw P w K mg base f c A outer s H0 E) CR C] (fun σ => [12, 5, 13].map (slotAt σ)) (TTw C) (tLamO T (LF ((XLw P w K mg base f c A outer s H0 E).env.qual ++ "<lambda>") (lPar (eW 0)) (lScope (eW 0)) (clW0 (XLw P w K mg base f c A outer s H0 E))) (lBody (eW 0)))) :=
  pe_give D.word (by rfl) (cellC_own capsW0 (fun _ => rfl)) (hr.mono (by decide)) (fun l hl g d => by
    rw [List.mem_singleton.mp hl]
    exact lokW0 D g d) (pe_lam L.tb rfl L.mem L.uni hdef lamW0)
abbrev clW1 (X : Cx) : List (Str × Addr) := cloFrom X.env.cells (lScope (eW 1)).names []
def kW1 (X : Cx) (CR : Addr) (C : Fin 4 → Addr) : LKind := ⟨LF (X.env.qual ++ "<lambda>") (lPar (eW 1)) (lScope (eW 1)) (clW1 X), lBody (eW 1), spW1 CR C⟩
theorem capsW1 (ok : (XLw P w K mg base f c A outer s H0 E).Ok) : Caps (XLw P w K mg base f c A outer s H0 E) (clW1 (XLw P w K mg base f c A outer s H0 E)) frW1 [4, 14, 13] := Caps.made ok lamW1.free (by decide +kernel) rfl
theorem peW1 (D : Lw P w K mg base T CW CT CM CR C) (L : LmT base mg T c Pt lamQL) (hr : Room 14 (XLw P w K mg base f c A outer s H0 E).A) {p lp pos : Pos} (hdef : defaultsOf (lPar (eW 1)) (XLw P w K mg base f c A outer s H0 E).env = ([], [])) : PE (XLw P w K mg base f c A outer s H0 E) (.Call (.Name "_law_word" p) [.Lambda (lPar (eW 1)) (lBody (eW 1)) (lScope (eW 1)) lp] [] pos) (tGive (clW1 (XLw P w K mg base f c A outer s H0 E)) [kW1 (XLw P w K mg base f c A outer s H0 E) CR C] (fun σ => [4, 14, 13].map (slotAt σ)) (TTw C) (tLamO T (LF ((XLw P w K mg base f c A outer s H0 E).env.qual ++ "<lambda>") (lPar (eW 1)) (lScope (eW 1)) (clW1 (XLw P w K mg base f c A outer s H0 E))) (lBody (eW 1)))) :=
  pe_give D.word (by rfl) (cellC_own capsW1 (fun _ => rfl)) (hr.mono (by decide)) (fun l hl g d => by
    rw [List.mem_singleton.mp hl]
    exact lokW1 D g d) (pe_lam L.tb rfl L.mem L.uni hdef lamW1)
abbrev clW2 (X : Cx) : List (Str × Addr) := cloFrom X.env.cells (lScope (eW 2)).names []
def kW2 (X : Cx) (CR : Addr) (C : Fin 4 → Addr) : LKind := ⟨LF (X.env.qual ++ "<lambda>") (lPar (eW 2)) (lScope (eW 2)) (clW2 X), lBody (eW 2), spW2 CR C⟩
theorem capsW2 (ok : (XLw P w K mg base f c A outer s H0 E).Ok) : Caps (XLw P w K mg base f c A outer s H0 E) (clW2 (XLw P w K mg base f c A outer s H0 E)) frW2 [4, 5, 13] := Caps.made ok lamW2.free (by decide +kernel) rfl
theorem peW2 (D : Lw P w K mg base T CW CT CM CR C) (L : LmT base mg T c Pt lamQL) (hr : Room 14 (XLw P w K mg base f c A outer s H0 E).A) {p lp pos : Pos} (hdef : defaultsOf (lPar (eW 2)) (XLw P w K mg base f c A outer s H0 E).env = ([], [])) : PE (XLw P w K mg base f c A outer s H0 E) (.Call (.Name "_law_word" p) [.Lambda (lPar (eW 2)) (lBody (eW 2)) (lScope (eW 2)) lp] [] pos) (tGive (clW2 (XLw P w K mg base f c A outer s H0 E)) [kW2 (XLw P w K mg base f c A outer s H0 E) CR C] (fun σ => [4, 5, 13].map (slotAt σ)) (TTw C) (tLamO T (LF ((XLw P w K mg base f c A outer s H0 E).env.qual ++ "<lambda>") (lPar (eW 2)) (lScope (eW 2)) (clW2 (XLw P w K mg base f c A outer s H0 E))) (lBody (eW 2)))) :=
  pe_give D.word (by rfl) (cellC_own capsW2 (fun _ => rfl)) (hr.mono (by decide)) (fun l hl g d => by
    rw [List.mem_singleton.mp hl]
    exact lokW2 D g d) (pe_lam L.tb rfl L.mem L.uni hdef lamW2)
abbrev clW3 (X : Cx) : List (Str × Addr) := cloFrom X.env.cells (lScope (eW 3)).names []
def kW3 (X : Cx) (CR : Addr) (C : Fin 4 → Addr) : LKind := ⟨LF (X.env.qual ++ "<lambda>") (lPar (eW 3)) (lScope (eW 3)) (clW3 X), lBody (eW 3), spW3 CR C⟩
theorem capsW3 (ok : (XLw P w K mg base f c A outer s H0 E).Ok) : Caps (XLw P w K mg base f c A outer s H0 E) (clW3 (XLw P w K mg base f c A outer s H0 E)) frW3 [4, 5] := Caps.made ok lamW3.free (by decide +kernel) rfl
theorem peW3 (D : Lw P w K mg base T CW CT CM CR C) (L : LmT base mg T c Pt lamQL) (hr : Room 14 (XLw P w K mg base f c A outer s H0 E).A) {p lp pos : Pos} (hdef : defaultsOf (lPar (eW 3)) (XLw P w K mg base f c A outer s H0 E).env = ([], [])) : PE (XLw P w K mg base f c A outer s H0 E) (.Call (.Name "_law_word" p) [.Lambda (lPar (eW 3)) (lBody (eW 3)) (lScope (eW 3)) lp] [] pos) (tGive (clW3 (XLw P w K mg base f c A outer s H0 E)) [kW3 (XLw P w K mg base f c A outer s H0 E) CR C] (fun σ => [4, 5].map (slotAt σ)) (TTw C) (tLamO T (LF ((XLw P w K mg base f c A outer s H0 E).env.qual ++ "<lambda>") (lPar (eW 3)) (lScope (eW 3)) (clW3 (XLw P w K mg base f c A outer s H0 E))) (lBody (eW 3)))) :=
  pe_give D.word (by rfl) (cellC_own capsW3 (fun _ => rfl)) (hr.mono (by decide)) (fun l hl g d => by
    rw [List.mem_singleton.mp hl]
    exact lokW3 D g d) (pe_lam L.tb rfl L.mem L.uni hdef lamW3)
end
end Tx
set_option Elab.async false
set_option linter.all false
set_option maxRecDepth 100000
set_option maxHeartbeats 16000000
namespace Tx
open PySem PySem.Spec PyProof.Rows L2 Cm Ob LmB NdefX LamX
theorem wds_st (n : Nat) {st : List V} (ok : StOk st) : HO.lst ((wds.take n).map V.str) ≠ .lst st := strs_st' _ ok
section
variable {P : Program} {w : World} {K : PySem.W.Frag} {mg : Str → Option Value} {base : Heap} {f c Pt : Addr} {A : Around} {outer : List Env} {s : Shared} {H0 : Hp} {E : XK} {a CW CT CM CR : Addr} {C : Fin 4 → Addr} {T : List (Addr × Str)} {ns : List Int}
theorem hT18 (D : Lw P w K mg base T CW CT CM CR C) (L : LmT base mg T c Pt lamQL) (hr : Room 14 (XLw P w K mg base f c A outer s H0 E).A) : Ho (XLw P w K mg base f c A outer s H0 E) (stT 18) (TLw T CW CT CM CR H0 a (rF CR)) (TLv T CR H0 a 1) := by
  refine ⟨_, ps_set (i := 15) scLw.nd rfl (.inl rfl) (pe_lst (pa_cons (peW0 D L hr rfl) pa_nil)), ?_⟩
  rintro D0 σ H ⟨l, d, kvs, es, z, mo, x, dx, l1, l2, tr, B, s1, s3, s7, s9, s10, s11, s12, s13, s14, s15, s16, s17, s18, rfl, S, Z, W, v, u, y, rfl, hb, rfl, hu, rfl, hy⟩ q
  refine ⟨S.tb, fun lv H2 e2 t2 la => ⟨lv, rfl, _, List.mem_singleton.mpr rfl, fun _ => rfl, la, fun Q2 E2 q1 q2 => ?_⟩⟩
  have kk := Kp.ext e2
  have S2 := S.ext e2 t2
  exact ⟨v, .str z, u, rfl, hb.kp kk, fun H3 s3 => q2 0 H3 (⟨by show 1 ≤ sizeLine; decide, fun pw hpw => q _ _ ⟨l, d, kvs, es, z, mo, v, u, y, pw, H3, _, _, _, _, _, _, _, _, _, _, rfl, (S2.same s3).same (same_new hpw), fsh_of (S2.same s3).ex hpw, Z.kp (kk.trans (Kp.same s3)), hb.kp (kk.trans (Kp.same s3)), hu, hy.kp (kk.trans (Kp.same s3)), hpw, Kp.same (same_new hpw), upd_same⟩⟩)⟩
theorem hT19 (D : Lw P w K mg base T CW CT CM CR C) (L : LmT base mg T c Pt lamQL) (hr : Room 14 (XLw P w K mg base f c A outer s H0 E).A) : Ho (XLw P w K mg base f c A outer s H0 E) (stT 19) (TLv T CR H0 a 1) (TLv T CR H0 a 2) := by
  refine ⟨_, ps_expr (pe_bm PySem.F.plainAttrs_list PySem.F.slot_list_append PySem.F.type_list_append mt_append (pv 15) (pa_cons (peW1 D L hr rfl) pa_nil)), ?_⟩
  rintro D0 σ H ⟨l, d, kvs, es, z, mo, v, u, y, pw, H1, s1, s3, s7, s8, s9, s10, s11, s16, s17, s18, rfl, S, fw, Z, hb, hu, hy, n1, k1, hw⟩ q
  refine ⟨_, rfl, .inl ⟨rfl, _, SqL.of hw⟩, S.tb, fun lv H2 e2 t2 la => ⟨lv, rfl, _, List.mem_singleton.mpr rfl, fun _ => rfl, la, fun Q2 E2 q1 q2 => ?_⟩⟩
  have kk := k1.trans (Kp.ext e2)
  have S2 := S.ext e2 t2
  have hw2 := e2 _ _ hw (by intro _ z; cases z)
  exact ⟨d, kvs, es, z, mo, y, u, rfl, Z.kp kk, hy.kp kk, fun H3 s3 => q2 0 H3 (⟨pw, _, _, rfl, rfl, s3 _ _ hw2, small1000 (by decide +kernel), q _ _ ⟨l, d, kvs, es, z, mo, v, u, y, pw, H1, _, _, _, _, _, _, _, _, _, _, rfl, (S2.same s3).upd fw (s3 _ _ hw2) (by intro _ z; cases z) (fun _ ok => wds_st 1 ok) (fun c q => codeO_lst c q), fw, Z, hb, hu, hy, n1, kp_upd (kk.trans (Kp.same s3)) n1, upd_same⟩⟩)⟩
theorem hT20 (D : Lw P w K mg base T CW CT CM CR C) (L : LmT base mg T c Pt lamQL) (hr : Room 14 (XLw P w K mg base f c A outer s H0 E).A) : Ho (XLw P w K mg base f c A outer s H0 E) (stT 20) (TLv T CR H0 a 2) (TLv T CR H0 a 3) := by
  refine ⟨_, ps_expr (pe_bm PySem.F.plainAttrs_list PySem.F.slot_list_append PySem.F.type_list_append mt_append (pv 15) (pa_cons (peW2 D L hr rfl) pa_nil)), ?_⟩
  rintro D0 σ H ⟨l, d, kvs, es, z, mo, v, u, y, pw, H1, s1, s3, s7, s8, s9, s10, s11, s16, s17, s18, rfl, S, fw, Z, hb, hu, hy, n1, k1, hw⟩ q
  refine ⟨_, rfl, .inl ⟨rfl, _, SqL.of hw⟩, S.tb, fun lv H2 e2 t2 la => ⟨lv, rfl, _, List.mem_singleton.mpr rfl, fun _ => rfl, la, fun Q2 E2 q1 q2 => ?_⟩⟩
  have kk := k1.trans (Kp.ext e2)
  have S2 := S.ext e2 t2
  have hw2 := e2 _ _ hw (by intro _ z; cases z)
  exact ⟨d, kvs, es, z, mo, u, rfl, Z.kp kk, hu, fun H3 s3 => q2 1 H3 (⟨pw, _, _, rfl, rfl, s3 _ _ hw2, small1000 (by decide +kernel), q _ _ ⟨l, d, kvs, es, z, mo, v, u, y, pw, H1, _, _, _, _, _, _, _, _, _, _, rfl, (S2.same s3).upd fw (s3 _ _ hw2) (by intro _ z; cases z) (fun _ ok => wds_st 2 ok) (fun c q => codeO_lst c q), fw, Z, hb, hu, hy, n1, kp_upd (kk.trans (Kp.same s3)) n1, upd_same⟩⟩)⟩
theorem hT21 (D : Lw P w K mg base T CW CT CM CR C) (L : LmT base mg T c Pt lamQL) (hr : Room 14 (XLw P w K mg base f c A outer s H0 E).A) : Ho (XLw P w K mg base f c A outer s H0 E) (stT 21) (TLv T CR H0 a 3) (TLv T CR H0 a 4) := by
  refine ⟨_, ps_expr (pe_bm PySem.F.plainAttrs_list PySem.F.slot_list_append PySem.F.type_list_append mt_append (pv 15) (pa_cons (peW3 D L hr rfl) pa_nil)), ?_⟩
  rintro D0 σ H ⟨l, d, kvs, es, z, mo, v, u, y, pw, H1, s1, s3, s7, s8, s9, s10, s11, s16, s17, s18, rfl, S, fw, Z, hb, hu, hy, n1, k1, hw⟩ q
  refine ⟨_, rfl, .inl ⟨rfl, _, SqL.of hw⟩, S.tb, fun lv H2 e2 t2 la => ⟨lv, rfl, _, List.mem_singleton.mpr rfl, fun _ => rfl, la, fun Q2 E2 q1 q2 => ?_⟩⟩
  have kk := k1.trans (Kp.ext e2)
  have S2 := S.ext e2 t2
  have hw2 := e2 _ _ hw (by intro _ z; cases z)
  exact ⟨d, kvs, es, z, mo, rfl, Z.kp kk, fun r H3 s3 => q1 r H3 (⟨pw, _, _, rfl, rfl, s3 _ _ hw2, small1000 (by decide +kernel), q _ _ ⟨l, d, kvs, es, z, mo, v, u, y, pw, H1, _, _, _, _, _, _, _, _, _, _, rfl, (S2.same s3).upd fw (s3 _ _ hw2) (by intro _ z; cases z) (fun _ ok => wds_st 3 ok) (fun c q => codeO_lst c q), fw, Z, hb, hu, hy, n1, kp_upd (kk.trans (Kp.same s3)) n1, upd_same⟩⟩)⟩
theorem hT22 (hr : Room 14 (XLw P w K mg base f c A outer s H0 E).A) : Ho (XLw P w K mg base f c A outer s H0 E) (stT 22) (TLv T CR H0 a 4) (TL0 T H0 a) := by
  refine ⟨_, ps_if (pt_cmpR (op_neD hr.units) (pv 15) (pe_lst (pa_cons pe_str (pa_cons pe_str (pa_cons pe_str (pa_cons pe_str pa_nil))))) (nomark _)) (pss_one (ps_ret pe_bl)) pss_nil, ?_⟩
  rintro D0 σ H ⟨l, d, kvs, es, z, mo, v, u, y, pw, H1, s1, s3, s7, s8, s9, s10, s11, s16, s17, s18, rfl, S, fw, Z, hb, hu, hy, n1, k1, hw⟩ q
  refine ⟨_, rfl, by show 4 ≤ sizeLine; decide, fun p hp => ?_⟩
  have c1 := same_new (o := HO.lst [V.str "tree", .str "tree", .str "number", .str "told"]) hp
  refine ⟨.list [.str "tree", .str "tree", .str "number", .str "told"], .list [.str "tree", .str "tree", .str "number", .str "told"], .lst (SqL.of (c1 _ _ hw)) (.cons (.str _) (.cons (.str _) (.cons (.str _) (.cons (.str _) .nil)))), .lst (SqL.of upd_same) (.cons (.str _) (.cons (.str _) (.cons (.str _) (.cons (.str _) .nil)))), by decide +kernel, by decide +kernel, _, rfl, iteF' (by decide +kernel) (q _ _ ⟨_, _, _, _, _, _, _, _, _, _, _, _, _, _, _, _, _, _, rfl, (S.same c1).ex, (S.same c1).tb⟩)⟩
end
def spLaw (K : PySem.W.Frag) (T : List (Addr × Str)) : Sp := fun vs H Q _ => ∃ (a : Addr) (ns : List Int), vs = [.ref a] ∧ SqL K H a (ns.map V.int) ∧ ns.length ≤ 63 ∧ Tabs T H ∧ ∀ H', Q (.bl true) H'
section
variable {P : Program} {w : World} {K : PySem.W.Frag} {mg : Str → Option Value} {base : Heap} {f c Pt : Addr} {CW CT CM CR : Addr} {C : Fin 4 → Addr} {T : List (Addr × Str)}
theorem ok_law {oc : Value} {od an : Option Addr} {dV kV doc pm ct : Value} {osl : Array (Option Value)}
    (lk : K.lookup f = some ⟨oc, od, .func (PySem.W.fnOf "law" "law" (defArgs sLaw) (defBody sLaw) (defScope sLaw) dV kV doc pm an (.ref c) ct), osl⟩) (hcd : PySem.W.codeIn K (.ref c) "law" = true) (hmax : mg "max" = none) (hmin : mg "min" = none) (D : Lw P w K mg base T CW CT CM CR C) (L : LmT base mg T c Pt lamQL) :
    FnOk P w K mg base CX0 15 f (PySem.W.fnOf "law" "law" (defArgs sLaw) (defBody sLaw) (defScope sLaw) dV kV doc pm an (.ref c) ct) ["_law_script"] (spLaw K T) := by
  refine fn_of lk hcd scLw (fun vs H Q E h => ?_) (fun A outer s H vs Q E hr h => ?_)
  · obtain ⟨x, ns, rfl, _⟩ := h
    rfl
  · obtain ⟨a, ns, rfl, hS, hlen, tb, q⟩ := h
    rw [bodyLaw]
    have hr' : Room 14 (XLw P w K mg base f c A outer s H E).A := hr
    obtain ⟨tbd, hb, rb⟩ := HoS.cons (hT0 (a := a) D hr' hS) (HoS.cons (hT1 D hr') (HoS.cons (hT2 D hr') (HoS.cons (hT3 D hr') (HoS.cons (hT4 D hr') (HoS.cons (hT5 D hr') (HoS.cons (hT6 D hr') (HoS.cons (hT7 D hr') (HoS.cons (hT8 D hr') (HoS.cons (hT9 D hr') (HoS.cons (hT10 D hr') (HoS.cons (hT11 D hr') (HoS.cons (hT12 D hr') (HoS.cons (hT13 D hr') (HoS.cons (hT14 D hr') (HoS.cons (hT15 D hr') (HoS.cons (hT16 D hr') (HoS.cons (hT17 D hr') (HoS.cons (hT18 D L hr') (HoS.cons (hT19 D L hr') (HoS.cons (hT20 D L hr') (HoS.cons (hT21 D L hr') (HoS.cons (hT22 hr') (HoS.nil)))))))))))))))))))))))
    refine ⟨_, PSs.nox (X := cxOf CX0 P w K mg base nLw "law" (defScope sLaw) f (.ref c) A outer s H E) (pss_cons (ps_for PassesOwn.never rfl (pi_range1 (by rfl) D.B.range (pa_cons (pe_callB (call_max2 rfl) (by rfl) hmax (by decide +kernel) (pa_cons pe_int (pa_cons (pe_callB (call_min2 rfl) (by rfl) hmin (by decide +kernel) (pa_cons pe_int (pa_cons (pe_callB call_len_seq (by rfl) D.B.len PySem.boot_len (pa_cons (pv 0) pa_nil)) pa_nil))) pa_nil))) pa_nil)) (pg_name (i := 1) scLw.nd rfl (Or.inl rfl)) hb) (pss_one (ps_ret pe_bl))), ?_⟩
    refine ⟨_, rfl, a, _, rfl, .inl hS, _, _, rfl, _, _, rfl, _, rfl, ?_, ?_, for_it walk_range (fun i σ H2 => TL0 T H a σ H2) ⟨_, _, _, _, _, _, _, _, _, _, _, _, _, _, _, _, _, _, rfl, ExtN.refl H, tb⟩ (fun _ _ _ _ _ => True.intro) ?_ (fun σ H2 h => q H2)⟩
    · split <;> split <;> omega
    · split <;> split <;> omega
    · rintro i y σ H2 H3 hi ⟨s1, s2, s3, s4, s5, s6, s7, s8, s9, s10, s11, s12, s13, s14, s15, s16, s17, s18, rfl, ex, tb2⟩ ⟨rfl, rfl⟩
      have e : ((0 : Int) + (i : Nat)) = (i : Nat) := Int.zero_add _
      show tbd _ (sL a (some (.int (0 + (i : Nat)))) s2 s3 s4 s5 s6 s7 s8 s9 s10 s11 s12 s13 s14 s15 s16 s17 s18) _
      rw [e]
      exact rb _ _ _ ⟨i, _, _, _, _, _, _, _, _, _, _, _, _, _, _, _, _, _, rfl, ex, tb2⟩ fun σ' H' h => h
end
end Tx
set_option Elab.async false
set_option linter.all false
set_option maxRecDepth 100000
set_option maxHeartbeats 2000000
/-! a Hook that looks at few objects, by their names, and at the tables of the code objects of some defs -/
namespace Hk
open PySem PySem.Spec PyProof.Rows L2 He
abbrev Get : Type := Addr → Option Obj
/-- the names whose objects are looked at -/
structure Few where
  cls : List Str
  fns : List Str
  oth : List Str
  mts : List (Str × Str)
  tbs : List Str
def nsA (g : Get) (C : Addr) : Addr := match g C with
  | some ⟨_, _, .cls cd, _⟩ => cd.ns
  | _ => 0
def inD (g : Get) (d : Addr) (x : Str) : Addr := match g d with
  | some ⟨_, _, .dict es _, _⟩ => (match es.toList.find? (·.key.isStr x) with
    | some e => (match e.val with | .ref a => a | _ => 0)
    | none => 0)
  | _ => 0
def cdA (g : Get) (f : Addr) : List Addr := match g f with
  | some ⟨_, _, .func fd, _⟩ => refV fd.code ++ refV fd.defaults
  | _ => []
def subA (g : Get) (a : Addr) : List Addr := match g a with
  | some ⟨_, _, .dict es _, _⟩ => es.toList.flatMap fun e => refV e.val
  | _ => []
def asF (g : Get) (F : Few) : List Addr :=
  let cs := F.cls.map (inD g mainGlobals)
  let fs := F.fns.map (inD g mainGlobals) ++ F.mts.map (fun p => inD g (nsA g (inD g mainGlobals p.1)) p.2)
  let os := F.oth.map (inD g mainGlobals)
  mainGlobals :: (cs ++ (cs.map (nsA g) ++ (fs ++ (fs.flatMap (cdA g) ++ (os ++ os.flatMap (subA g))))))
/-! ### tables -/
def fnCode (K : PySem.W.Frag) (f : Addr) : Addr := match K.lookup f with
  | some ⟨_, _, .func fd, _⟩ => (match fd.code with | .ref c => c | _ => 0)
  | _ => 0
def codeTab (K : PySem.W.Frag) (c : Addr) : Addr := match K.lookup c with
  | some ⟨_, _, .fields vs, _⟩ => (match (vs[11]? : Option Value) with | some (.ref P) => P | _ => 0)
  | _ => 0
def tC (K : PySem.W.Frag) (nm : Str) : Addr := fnCode K (ga K nm)
def tP (K : PySem.W.Frag) (nm : Str) : Addr := codeTab K (tC K nm)
def isTab (g : Get) (P : Addr) : Bool := match g P with
  | some o => emptyTab o
  | none => false
def tabB (g : Get) (K : PySem.W.Frag) (nm : Str) : Bool := isTab g (tP K nm) && (PySem.W.codeHdIn K (tC K nm) (tP K nm) && (K.lookup (tP K nm)).isNone)
structure TabOk (h : Heap) (K : PySem.W.Frag) (nm : Str) : Prop where
  tab : h.get? (tP K nm) = some { cls := .none, data := .fields #[] }
  hd : PySem.W.codeHdIn K (tC K nm) (tP K nm) = true
  no : K.lookup (tP K nm) = none
theorem tabB_ok {s : Shared} {K : PySem.W.Frag} {nm : Str} (h : tabB s.heap.get? K nm = true) : TabOk s.heap K nm := by
  obtain ⟨h1, h2⟩ := ba h
  obtain ⟨h2, h3⟩ := ba h2
  refine ⟨?_, h2, Option.isNone_iff_eq_none.mp h3⟩
  unfold isTab at h1
  cases e : s.heap.get? (tP K nm) with
  | none =>
    rw [e] at h1
    cases h1
  | some o =>
    rw [e] at h1
    rw [emptyTab_eq h1]
abbrev Al : Type := AlT × (Bool × Bool)
def obs (F : Few) (fa : List Fa) (fn : List DefD) (ts : List Tab) (ex : PySem.W.Frag → Bool) (g : Get) : Al := (obsT fa fn ts (frG g (asF g F)), (ex (frG g (asF g F)), F.tbs.all fun nm => tabB g (frG g (asF g F)) nm))
def val (fn : List DefD) (ts : List Tab) (w : World) : Al := (valT fn ts w, (true, true))
structure Says (fa : List Fa) (fn : List DefD) (ts : List Tab) (ex : PySem.W.Frag → Bool) (w : World) (K : PySem.W.Frag) : Prop where
  t : SaysT fa fn ts w K
  more : ex K = true
def hook (F : Few) (fa : List Fa) (fn : List DefD) (ts : List Tab) (ex : PySem.W.Frag → Bool) : PySem.W.Hook where
  α := Al
  obs := fun s => obs F fa fn ts ex s.heap.get?
  val := fun w => val fn ts w
  says := fun w h => ∃ K : PySem.W.Frag, K.In h ∧ Says fa fn ts ex w K ∧ ∀ nm ∈ F.tbs, TabOk h K nm
  of := fun _ s e => ⟨_, frG_in, ⟨congrArg (fun z : Al => z.1) e, congrArg (fun z : Al => z.2.1) e⟩, fun nm hn => tabB_ok (s := s) (List.all_eq_true.mp (congrArg (fun z : Al => z.2.2) e) nm hn)⟩
  keeps := fun _ _ _ ⟨K, hK, c, t⟩ k => ⟨K, PySem.W.Frag.In.keeps hK k, c, fun nm hn => ⟨k _ _ (t nm hn).tab, (t nm hn).hd, (t nm hn).no⟩⟩
theorem obs_eq {F : Few} {fa : List Fa} {fn : List DefD} {ts : List Tab} {ex : PySem.W.Frag → Bool} {g : Get} {s : Shared} (h : ∀ a, g a = s.heap.get? a) : obs F fa fn ts ex g = (hook F fa fn ts ex).obs s := by
  have e : g = s.heap.get? := funext h
  rw [e] <;> rfl
theorem walk_ofTE {l : PySem.W.OpenLaw} {n k : Nat} {q : Program} {loose : List Str} {XP : (Str → Option Value) → Heap → Prop} {YP : World → Heap → Prop} {d : DefRec} {CX : CXT} {x : Str}
    (hn : l.most = some n) (hn2 : n ≤ sizeLine) (hdf : d.params.defaults = []) (hr : Room k callerA)
    (F : ∀ (w : World) (mg : Str → Option Value) (fa : Addr) (h : Heap), YP w h → h.Ns mainGlobals mg → mg d.name = some (.ref fa) →
      ∃ (K : PySem.W.Frag) (cs : List (Addr × Addr)) (fd : FuncData) (sp : Sp), K.In h ∧ (∀ p ∈ cs, h.get? p.2 = some { cls := .none, data := .fields #[] }) ∧ (∀ p ∈ cs, K.lookup p.2 = none) ∧ (∀ p ∈ cs, PySem.W.CodeHd h p.1 p.2) ∧ (∀ (s : Shared) (u : Value), BindsTo s fd ⟨[u], []⟩ [(x, u)]) ∧
        (∀ (H : Hp) (a : Addr) (ns : List Int), ns.length ≤ n → (∀ p ∈ cs, H p.2 = some (.tbl #[])) → SqL K H a (ns.map V.int) → sp [.ref a] H (fun v _ => v = .bl true) fun _ _ _ => False) ∧
        ∀ base : Heap, K.In base → base.Ns mainGlobals mg → (∀ p ∈ cs, LamX.TabB base mg p.1 p.2) → FnOk l.prog w K mg base CX k fa fd [x] sp)
    (hCX : ∀ (H : Hp) (s : Shared) (e : Value) (s' : Shared), CX [] H s (fun _ _ _ => False) e s' → False) :
    PySem.W.WalkO q loose XP YP l.row.toRowW d [] (fun f vs => PySem.call f vs) := by
  refine Att.attach_callB hn hdf fun w s₀ s₁ mg mb fa o pm cd doc a vs ns G Y ho hd hcd hmg hobj hints hlen hbits hg => ?_
  obtain ⟨K, cs, fd, sp, KX, hT, nT, C, hb, hsp, hF⟩ := F w mg fa _ Y G.T.g hmg
  exact LamX.law_callTs KX G.T.g G.T.b G.T.builtins G.T.nolimit hg hT nT C G.T.bmain hobj hints (Nat.le_trans hlen hn2) hr hF hb (fun H hH hS => hsp H a ns hlen hH hS) fun H e s' => hCX H s₁ e s'
/-- a def's own code object -/
theorem fun_ref {K : PySem.W.Frag} {x : Str} {st : Stmt} {f : Addr} {fd : FuncData} (F : Fun K x x st f fd) : ∃ (oc : Value) (od an : Option Addr) (kV dc pm ct : Value) (sl : Array (Option Value)), fd = PySem.W.fnOf x x (defArgs st) (defBody st) (defScope st) .none kV dc pm an (.ref (fnCode K f)) ct ∧ K.lookup f = some ⟨oc, od, .func (PySem.W.fnOf x x (defArgs st) (defBody st) (defScope st) .none kV dc pm an (.ref (fnCode K f)) ct), sl⟩ ∧ PySem.W.codeIn K (.ref (fnCode K f)) x = true := by
  obtain ⟨oc, od, kV, dc, pm, an, cd, ct, sl, e, lk, hcd⟩ := id F.ex
  have ec : ∃ c, cd = .ref c := by
    cases cd with
    | ref c => exact ⟨c, rfl⟩
    | _ => cases hcd
  obtain ⟨c, rfl⟩ := ec
  have ef : fnCode K f = c := by
    unfold fnCode
    rw [lk, e]
  rw [ef]
  rw [e] at lk
  exact ⟨oc, od, an, kV, dc, pm, ct, sl, e, lk, hcd⟩
end Hk
set_option Elab.async false
set_option linter.all false
set_option maxRecDepth 100000
set_option maxHeartbeats 0
namespace Hx
open PySem PySem.Spec PyProof.Rows L2 Tx
def ns0 : List Str := ["_wall", "__name__", "MountError", "NoTree", "NoNumber", "NoSpace", "NoMount", "NoPath", "LETTERS", "MOST_NODES", "MOST_DEPTH", "is_whole", "is_name", "is_path", "is_absolute", "parts_of"]
def ns1 : List Str := ["path_text", "node_value", "Tree", "within", "MOST_LINKS", "Walker", "space_root", "walk_in", "names_to", "path_to", "shown_in", "Mount", "Table", "are_trees", "World", "plain_form"]
def ns2 : List Str := ["Labels", "_law_cell_at", "_law_digit", "_law_tree", "_law_word", "_law_doors", "_law_named"]
abbrev loose : List Str := ns0 ++ ns1 ++ ns2
def d_is_whole : He.DefD := ⟨("is_whole", none), "is_whole", "is_whole", defArgs sWhole, defBody sWhole, defScope sWhole, [], []⟩
def d_is_name : He.DefD := ⟨("is_name", none), "is_name", "is_name", defArgs sName, defBody sName, defScope sName, [], []⟩
def d_is_path : He.DefD := ⟨("is_path", none), "is_path", "is_path", defArgs sPath, defBody sPath, defScope sPath, [], []⟩
def d_node_value : He.DefD := ⟨("node_value", none), "node_value", "node_value", defArgs sNode, defBody sNode, defScope sNode, [], []⟩
def d_path_to : He.DefD := ⟨("path_to", none), "path_to", "path_to", defArgs sPathTo, defBody sPathTo, defScope sPathTo, [], []⟩
def d_are_trees : He.DefD := ⟨("are_trees", none), "are_trees", "are_trees", defArgs sAreTrees, defBody sAreTrees, defScope sAreTrees, [], []⟩
def d_plain_form : He.DefD := ⟨("plain_form", none), "plain_form", "plain_form", defArgs sPlainF, defBody sPlainF, defScope sPlainF, [], []⟩
def d__law_cell_at : He.DefD := ⟨("_law_cell_at", none), "_law_cell_at", "_law_cell_at", defArgs sCell, defBody sCell, defScope sCell, [], []⟩
def d__law_digit : He.DefD := ⟨("_law_digit", none), "_law_digit", "_law_digit", defArgs sDigit, defBody sDigit, defScope sDigit, [], []⟩
def d__law_tree : He.DefD := ⟨("_law_tree", none), "_law_tree", "_law_tree", defArgs sLTree, defBody sLTree, defScope sLTree, [], []⟩
def d__law_word : He.DefD := ⟨("_law_word", none), "_law_word", "_law_word", defArgs sWord, defBody sWord, defScope sWord, [], []⟩
def d__law_doors : He.DefD := ⟨("_law_doors", none), "_law_doors", "_law_doors", defArgs sDoors, defBody sDoors, defScope sDoors, [], []⟩
def d__law_named : He.DefD := ⟨("_law_named", none), "_law_named", "_law_named", defArgs sNamed, defBody sNamed, defScope sNamed, [], []⟩
def d_law : He.DefD := ⟨("law", none), "law", "law", defArgs sLaw, defBody sLaw, defScope sLaw, [], []⟩
def d_Tree___init__ : He.DefD := ⟨("Tree", some "__init__"), "__init__", "Tree.__init__", defArgs sInit, defBody sInit, defScope sInit, [], []⟩
def d_Mount___init__ : He.DefD := ⟨("Mount", some "__init__"), "__init__", "Mount.__init__", defArgs sMtI, defBody sMtI, defScope sMtI, [], []⟩
def d_Mount_kind : He.DefD := ⟨("Mount", some "kind"), "kind", "Mount.kind", defArgs sMtK, defBody sMtK, defScope sMtK, [], []⟩
def d_Table___init__ : He.DefD := ⟨("Table", some "__init__"), "__init__", "Table.__init__", defArgs sTbI, defBody sTbI, defScope sTbI, [], []⟩
def d_Table_next : He.DefD := ⟨("Table", some "next"), "next", "Table.next", defArgs sNext, defBody sNext, defScope sNext, [], []⟩
def d_Table_mount : He.DefD := ⟨("Table", some "mount"), "mount", "Table.mount", defArgs sMount, defBody sMount, defScope sMount, [], []⟩
def d_Table_sure_space : He.DefD := ⟨("Table", some "sure_space"), "sure_space", "Table.sure_space", defArgs sSureS, defBody sSureS, defScope sSureS, [], []⟩
def d_Table_new_mount : He.DefD := ⟨("Table", some "new_mount"), "new_mount", "Table.new_mount", defArgs sNewM, defBody sNewM, defScope sNewM, [], []⟩
def d_Table_children : He.DefD := ⟨("Table", some "children"), "children", "Table.children", defArgs sChild, defBody sChild, defScope sChild, [], []⟩
def d_Table_receivers : He.DefD := ⟨("Table", some "receivers"), "receivers", "Table.receivers", defArgs sTRec, defBody sTRec, defScope sTRec, [], []⟩
def d_World___init__ : He.DefD := ⟨("World", some "__init__"), "__init__", "World.__init__", defArgs sWoI, defBody sWoI, defScope sWoI, [.int 1000], []⟩
def d_World_past : He.DefD := ⟨("World", some "past"), "past", "World.past", defArgs sPast, defBody sPast, defScope sPast, [], []⟩
def d_World_walk : He.DefD := ⟨("World", some "walk"), "walk", "World.walk", defArgs sWalk, defBody sWalk, defScope sWalk, [], []⟩
def d_World_path_of : He.DefD := ⟨("World", some "path_of"), "path_of", "World.path_of", defArgs sPathOf, defBody sPathOf, defScope sPathOf, [], []⟩
def d_World_shown : He.DefD := ⟨("World", some "shown"), "shown", "World.shown", defArgs sShown, defBody sShown, defScope sShown, [], []⟩
def d_World_spaces : He.DefD := ⟨("World", some "spaces"), "spaces", "World.spaces", defArgs sSpaces, defBody sSpaces, defScope sSpaces, [], []⟩
def d_World_mounts : He.DefD := ⟨("World", some "mounts"), "mounts", "World.mounts", defArgs sMounts, defBody sMounts, defScope sMounts, [], []⟩
def d_World_told : He.DefD := ⟨("World", some "told"), "told", "World.told", defArgs sTold, defBody sTold, defScope sTold, [], []⟩
def d_World_peers : He.DefD := ⟨("World", some "peers"), "peers", "World.peers", defArgs sPeers, defBody sPeers, defScope sPeers, [], []⟩
def d_World_followed : He.DefD := ⟨("World", some "followed"), "followed", "World.followed", defArgs sFollowed, defBody sFollowed, defScope sFollowed, [], []⟩
def d_World_receivers : He.DefD := ⟨("World", some "receivers"), "receivers", "World.receivers", defArgs sReceivers, defBody sReceivers, defScope sReceivers, [], []⟩
def d_World_owner : He.DefD := ⟨("World", some "owner"), "owner", "World.owner", defArgs sOwner, defBody sOwner, defScope sOwner, [], []⟩
def d_World_trusted : He.DefD := ⟨("World", some "trusted"), "trusted", "World.trusted", defArgs sTrusted, defBody sTrusted, defScope sTrusted, [], []⟩
def d_World_plain : He.DefD := ⟨("World", some "plain"), "plain", "World.plain", defArgs sPlain, defBody sPlain, defScope sPlain, [], []⟩
def d_World_shape : He.DefD := ⟨("World", some "shape"), "shape", "World.shape", defArgs sShape, defBody sShape, defScope sShape, [], []⟩
def d_Labels___init__ : He.DefD := ⟨("Labels", some "__init__"), "__init__", "Labels.__init__", defArgs sLbI, defBody sLbI, defScope sLbI, [], []⟩
def d_Labels_group_label : He.DefD := ⟨("Labels", some "group_label"), "group_label", "Labels.group_label", defArgs sLbG, defBody sLbG, defScope sLbG, [], []⟩
def d_Labels_label : He.DefD := ⟨("Labels", some "label"), "label", "Labels.label", defArgs sLbL, defBody sLbL, defScope sLbL, [], []⟩
def d_Labels_form : He.DefD := ⟨("Labels", some "form"), "form", "Labels.form", defArgs sLbF, defBody sLbF, defScope sLbF, [], []⟩
def fn1 : List He.DefD := [d_is_whole, d_is_name, d_is_path, d_node_value, d_path_to, d_are_trees, d_plain_form, d__law_cell_at, d__law_digit, d__law_tree, d__law_word, d__law_doors, d__law_named, d_law]
def fn2 : List He.DefD := [d_Tree___init__, d_Mount___init__, d_Mount_kind, d_Table___init__, d_Table_next, d_Table_mount, d_Table_sure_space, d_Table_new_mount, d_Table_children, d_Table_receivers, d_World___init__, d_World_past, d_World_walk, d_World_path_of, d_World_shown, d_World_spaces, d_World_mounts, d_World_told, d_World_peers, d_World_followed, d_World_receivers, d_World_owner, d_World_trusted, d_World_plain, d_World_shape, d_Labels___init__, d_Labels_group_label, d_Labels_label, d_Labels_form]
def fn : List He.DefD := fn1 ++ fn2
def fa1 : List He.Fa := [.free "isinstance", .free "int", .free "bool", .free "str", .free "dict", .free "tuple", .free "range", .free "len", .free "all", .free "any", .free "sorted", .free "list", .free "max", .free "min"]
def fa2 : List He.Fa := [.glo "is_whole", .glo "is_name", .glo "is_path", .glo "node_value", .glo "path_to", .glo "are_trees", .glo "plain_form", .glo "_law_cell_at", .glo "_law_digit", .glo "_law_tree", .glo "_law_word", .glo "_law_doors", .glo "_law_named", .glo "law", .glo "Tree", .glo "Mount", .glo "Table", .glo "World", .glo "Labels", .glo "MountError", .glo "NoTree", .glo "NoNumber", .glo "NoSpace", .glo "NoMount"]
def fa4 : List He.Fa := [.str "LETTERS" letters, .int "MOST_NODES" 60, .int "MOST_DEPTH" 8, .cls "Tree", .cls "Mount", .cls "Table", .cls "World", .cls "Labels", .noat "Tree" "nodes", .mkr "Tree", .mkr "Mount", .mkr "Table", .mkr "World", .mkr "Labels", .exc "NoTree", .exc "NoNumber", .exc "NoSpace", .exc "NoMount", .exm "NoTree" "MountError" true, .exm "NoNumber" "MountError" true, .exm "NoSpace" "MountError" true, .exm "NoMount" "MountError" true, .exm "NoTree" "NoTree" true]
def fa5 : List He.Fa := [.meth "Mount" "kind", .meth "Table" "next", .meth "Table" "mount", .meth "Table" "sure_space", .meth "Table" "new_mount", .meth "Table" "children", .meth "Table" "receivers", .meth "World" "past", .meth "World" "walk", .meth "World" "path_of", .meth "World" "shown", .meth "World" "spaces", .meth "World" "mounts", .meth "World" "told", .meth "World" "peers", .meth "World" "followed", .meth "World" "receivers", .meth "World" "owner", .meth "World" "trusted", .meth "World" "plain", .meth "World" "shape", .meth "Labels" "group_label", .meth "Labels" "label", .meth "Labels" "form"]
def fa6 : List He.Fa := (mtN.map fun f => He.Fa.noat "Mount" f) ++ ((tbN.map fun f => He.Fa.noat "Table" f) ++ ((woN.map fun f => He.Fa.noat "World" f) ++ (lbN.map fun f => He.Fa.noat "Labels" f)))
def fa : List He.Fa := fa1 ++ (fa2 ++ (fa4 ++ (fa5 ++ fa6)))
def ts : List He.Tab := []
/-- an error, as isinstance asks it -/
def excB (K : PySem.W.Frag) (D : Addr) : Bool :=
  decide (PySem.W.findIn K (.ref D) "__getattribute__" = some (some (.builtin "BaseException.__getattribute__"))) && (decide (PySem.W.findIn K (.ref D) "__getattr__" = some none) && (decide (PySem.W.subIn K (.ref D) (.type "BaseException") = some true) && (PySem.W.hasDictIn K D &&
  (decide (PySem.W.findIn K (.ref D) "__class__" = some (some (.builtin "object.__class__"))) && (decide (PySem.W.specialIn K (.builtin "object.__class__") "__get__" = some (some (.builtin "getset_descriptor.__get__"))) && (decide (PySem.W.takesIn K (.builtin "object.__class__") = some true) && decide (PySem.W.mroIn K D (.type "object") = some true)))))))
theorem excB_ok {K : PySem.W.Frag} {D : Addr} (h : excB K D = true) : ExcC K D := by
  simp only [excB, Bool.and_eq_true, decide_eq_true_eq] at h
  obtain ⟨h1, h2, h3, h4, h5, h6, h7, h8⟩ := h
  exact ⟨h1, h2, h3, h4, h5, h6, h7, h8⟩
def trB (K : PySem.W.Frag) (C : Addr) : Bool := decide (PySem.W.findIn K (.ref C) "__class__" = some (some (.builtin "object.__class__"))) && (decide (PySem.W.specialIn K (.builtin "object.__class__") "__get__" = some (some (.builtin "getset_descriptor.__get__"))) && (decide (PySem.W.takesIn K (.builtin "object.__class__") = some true) && (decide (PySem.W.mroIn K C (.type "object") = some true) && (decide (PySem.W.kitOne K (.ref C) (.ref C) = some true) && decide (PySem.W.kitOne K (.type "dict") (.ref C) = some false)))))
def fs4 : List (Fin 4) := [0, 1, 2, 3]
def kitB4 (K : PySem.W.Frag) : Bool := fs4.all fun i => fs4.all fun j => decide (PySem.W.kitOne K (.ref (He.ga K (nm4 i))) (.ref (He.ga K (nm4 j))) = some (decide (i = j)))
def exB (K : PySem.W.Frag) : Bool := (fs4.all fun i => excB K (He.ga K (nm4 i))) && (trB K (He.ga K "Tree") && (kitB4 K && !(Hk.tP K "_law_doors" == Hk.tP K "law")))
abbrev R : PySem.W.OpenRow := PySem.W.OpenLaw.row PySem.Challenge.rw_spreadmounts_k13_worlds_begun_and_refuse
def few : Hk.Few := ⟨["Tree", "Mount", "Table", "World", "Labels", "MountError", "NoTree", "NoNumber", "NoSpace", "NoMount"], ["is_whole", "is_name", "is_path", "node_value", "path_to", "are_trees", "plain_form", "_law_cell_at", "_law_digit", "_law_tree", "_law_word", "_law_doors", "_law_named", "law"], [], [("Tree", "__init__"), ("Mount", "__init__"), ("Mount", "kind"), ("Table", "__init__"), ("Table", "next"), ("Table", "mount"), ("Table", "sure_space"), ("Table", "new_mount"), ("Table", "children"), ("Table", "receivers"), ("World", "__init__"), ("World", "past"), ("World", "walk"), ("World", "path_of"), ("World", "shown"), ("World", "spaces"), ("World", "mounts"), ("World", "told"), ("World", "peers"), ("World", "followed"), ("World", "receivers"), ("World", "owner"), ("World", "trusted"), ("World", "plain"), ("World", "shape"), ("Labels", "__init__"), ("Labels", "group_label"), ("Labels", "label"), ("Labels", "form")], ["_law_doors", "law"]⟩
abbrev hk : PySem.W.Hook := Hk.hook few fa fn ts exB
def ob (s : PySem.W.SharedT) : Hk.Al := Hk.obs few fa fn ts exB (HandSHeadRun.getT s)
theorem ob_eq (s : PySem.W.SharedT) : ob s = hk.obs s.abs := Hk.obs_eq (HandSHeadRun.getT_eq s)
theorem runF (w : World) : HandSHeadRun.RunEq R (PySem.W.view R.prog [44]) hk ob 60000 loose (w.withFollow "special-get-raises" false) := by
  intro os
  kernel_rfl
end Hx
set_option Elab.async false
set_option linter.all false
set_option maxRecDepth 100000
set_option maxHeartbeats 16000000
namespace Hx
open PySem PySem.Spec PyProof.Rows L2 Tx Cm
section
variable {P : Program} {w : World} {K : PySem.W.Frag} {h : Heap} {mg : Str → Option Value} {base : Heap}
theorem f_is_whole (c : He.SaysD fa fn K) : ∃ fd, Fun K "is_whole" "is_whole" sWhole (He.ga K "is_whole") fd ∧ Binds K fd ["thing", "low", "high"] [] := by
  obtain ⟨fd, F⟩ := c.def_ 0 (d := d_is_whole) rfl
  have F1 : Fun K "is_whole" "is_whole" sWhole (He.ga K "is_whole") fd := He5.fun_of F
  exact ⟨fd, F1, F1.binds (ps := ["thing", "low", "high"]) fun _ _ _ _ _ _ us hl => match us, hl with | [_, _, _], _ => rfl⟩
theorem f_is_name (c : He.SaysD fa fn K) : ∃ fd, Fun K "is_name" "is_name" sName (He.ga K "is_name") fd ∧ Binds K fd ["thing"] [] := by
  obtain ⟨fd, F⟩ := c.def_ 1 (d := d_is_name) rfl
  have F1 : Fun K "is_name" "is_name" sName (He.ga K "is_name") fd := He5.fun_of F
  exact ⟨fd, F1, F1.binds (ps := ["thing"]) fun _ _ _ _ _ _ us hl => match us, hl with | [_], _ => rfl⟩
theorem f_is_path (c : He.SaysD fa fn K) : ∃ fd, Fun K "is_path" "is_path" sPath (He.ga K "is_path") fd ∧ Binds K fd ["thing"] [] := by
  obtain ⟨fd, F⟩ := c.def_ 2 (d := d_is_path) rfl
  have F1 : Fun K "is_path" "is_path" sPath (He.ga K "is_path") fd := He5.fun_of F
  exact ⟨fd, F1, F1.binds (ps := ["thing"]) fun _ _ _ _ _ _ us hl => match us, hl with | [_], _ => rfl⟩
theorem f_node_value (c : He.SaysD fa fn K) : ∃ fd, Fun K "node_value" "node_value" sNode (He.ga K "node_value") fd ∧ Binds K fd ["thing", "depth", "met"] [] := by
  obtain ⟨fd, F⟩ := c.def_ 3 (d := d_node_value) rfl
  have F1 : Fun K "node_value" "node_value" sNode (He.ga K "node_value") fd := He5.fun_of F
  exact ⟨fd, F1, F1.binds (ps := ["thing", "depth", "met"]) fun _ _ _ _ _ _ us hl => match us, hl with | [_, _, _], _ => rfl⟩
theorem f_path_to (c : He.SaysD fa fn K) : ∃ fd, Fun K "path_to" "path_to" sPathTo (He.ga K "path_to") fd ∧ Binds K fd ["table", "number", "node"] [] := by
  obtain ⟨fd, F⟩ := c.def_ 4 (d := d_path_to) rfl
  have F1 : Fun K "path_to" "path_to" sPathTo (He.ga K "path_to") fd := He5.fun_of F
  exact ⟨fd, F1, F1.binds (ps := ["table", "number", "node"]) fun _ _ _ _ _ _ us hl => match us, hl with | [_, _, _], _ => rfl⟩
theorem f_are_trees (c : He.SaysD fa fn K) : ∃ fd, Fun K "are_trees" "are_trees" sAreTrees (He.ga K "are_trees") fd ∧ Binds K fd ["thing"] [] := by
  obtain ⟨fd, F⟩ := c.def_ 5 (d := d_are_trees) rfl
  have F1 : Fun K "are_trees" "are_trees" sAreTrees (He.ga K "are_trees") fd := He5.fun_of F
  exact ⟨fd, F1, F1.binds (ps := ["thing"]) fun _ _ _ _ _ _ us hl => match us, hl with | [_], _ => rfl⟩
theorem f_plain_form (c : He.SaysD fa fn K) : ∃ fd, Fun K "plain_form" "plain_form" sPlainF (He.ga K "plain_form") fd ∧ Binds K fd ["table", "mount"] [] := by
  obtain ⟨fd, F⟩ := c.def_ 6 (d := d_plain_form) rfl
  have F1 : Fun K "plain_form" "plain_form" sPlainF (He.ga K "plain_form") fd := He5.fun_of F
  exact ⟨fd, F1, F1.binds (ps := ["table", "mount"]) fun _ _ _ _ _ _ us hl => match us, hl with | [_, _], _ => rfl⟩
theorem f__law_cell_at (c : He.SaysD fa fn K) : ∃ fd, Fun K "_law_cell_at" "_law_cell_at" sCell (He.ga K "_law_cell_at") fd ∧ Binds K fd ["_law_script", "_law_k"] [] := by
  obtain ⟨fd, F⟩ := c.def_ 7 (d := d__law_cell_at) rfl
  have F1 : Fun K "_law_cell_at" "_law_cell_at" sCell (He.ga K "_law_cell_at") fd := He5.fun_of F
  exact ⟨fd, F1, F1.binds (ps := ["_law_script", "_law_k"]) fun _ _ _ _ _ _ us hl => match us, hl with | [_, _], _ => rfl⟩
theorem f__law_digit (c : He.SaysD fa fn K) : ∃ fd, Fun K "_law_digit" "_law_digit" sDigit (He.ga K "_law_digit") fd ∧ Binds K fd ["_law_state", "_law_base"] [] := by
  obtain ⟨fd, F⟩ := c.def_ 8 (d := d__law_digit) rfl
  have F1 : Fun K "_law_digit" "_law_digit" sDigit (He.ga K "_law_digit") fd := He5.fun_of F
  exact ⟨fd, F1, F1.binds (ps := ["_law_state", "_law_base"]) fun _ _ _ _ _ _ us hl => match us, hl with | [_, _], _ => rfl⟩
theorem f__law_tree (c : He.SaysD fa fn K) : ∃ fd, Fun K "_law_tree" "_law_tree" sLTree (He.ga K "_law_tree") fd ∧ Binds K fd ["_law_state"] [] := by
  obtain ⟨fd, F⟩ := c.def_ 9 (d := d__law_tree) rfl
  have F1 : Fun K "_law_tree" "_law_tree" sLTree (He.ga K "_law_tree") fd := He5.fun_of F
  exact ⟨fd, F1, F1.binds (ps := ["_law_state"]) fun _ _ _ _ _ _ us hl => match us, hl with | [_], _ => rfl⟩
theorem f__law_word (c : He.SaysD fa fn K) : ∃ fd, Fun K "_law_word" "_law_word" sWord (He.ga K "_law_word") fd ∧ Binds K fd ["_law_ask"] [] := by
  obtain ⟨fd, F⟩ := c.def_ 10 (d := d__law_word) rfl
  have F1 : Fun K "_law_word" "_law_word" sWord (He.ga K "_law_word") fd := He5.fun_of F
  exact ⟨fd, F1, F1.binds (ps := ["_law_ask"]) fun _ _ _ _ _ _ us hl => match us, hl with | [_], _ => rfl⟩
theorem f__law_doors (c : He.SaysD fa fn K) : ∃ fd, Fun K "_law_doors" "_law_doors" sDoors (He.ga K "_law_doors") fd ∧ Binds K fd ["_law_world", "_law_odd"] [] := by
  obtain ⟨fd, F⟩ := c.def_ 11 (d := d__law_doors) rfl
  have F1 : Fun K "_law_doors" "_law_doors" sDoors (He.ga K "_law_doors") fd := He5.fun_of F
  exact ⟨fd, F1, F1.binds (ps := ["_law_world", "_law_odd"]) fun _ _ _ _ _ _ us hl => match us, hl with | [_, _], _ => rfl⟩
theorem f__law_named (c : He.SaysD fa fn K) : ∃ fd, Fun K "_law_named" "_law_named" sNamed (He.ga K "_law_named") fd ∧ Binds K fd ["_law_state"] [] := by
  obtain ⟨fd, F⟩ := c.def_ 12 (d := d__law_named) rfl
  have F1 : Fun K "_law_named" "_law_named" sNamed (He.ga K "_law_named") fd := He5.fun_of F
  exact ⟨fd, F1, F1.binds (ps := ["_law_state"]) fun _ _ _ _ _ _ us hl => match us, hl with | [_], _ => rfl⟩
theorem f_law (c : He.SaysD fa fn K) : ∃ fd, Fun K "law" "law" sLaw (He.ga K "law") fd ∧ Binds K fd ["_law_script"] [] := by
  obtain ⟨fd, F⟩ := c.def_ 13 (d := d_law) rfl
  have F1 : Fun K "law" "law" sLaw (He.ga K "law") fd := He5.fun_of F
  exact ⟨fd, F1, F1.binds (ps := ["_law_script"]) fun _ _ _ _ _ _ us hl => match us, hl with | [_], _ => rfl⟩
theorem f_Tree___init__ (c : He.SaysD fa fn K) : ∃ fd, Fun K "__init__" "Tree.__init__" sInit (He.ma K (He.ga K "Tree") "__init__") fd ∧ Binds K fd ["self", "top"] [] := by
  obtain ⟨fd, F⟩ := c.def_ 14 (d := d_Tree___init__) rfl
  have F1 : Fun K "__init__" "Tree.__init__" sInit (He.ma K (He.ga K "Tree") "__init__") fd := He5.fun_of F
  exact ⟨fd, F1, F1.binds (ps := ["self", "top"]) fun _ _ _ _ _ _ us hl => match us, hl with | [_, _], _ => rfl⟩
theorem f_Mount___init__ (c : He.SaysD fa fn K) : ∃ fd, Fun K "__init__" "Mount.__init__" sMtI (He.ma K (He.ga K "Mount") "__init__") fd ∧ Binds K fd ["self", "number", "space", "tree", "root"] [] := by
  obtain ⟨fd, F⟩ := c.def_ 15 (d := d_Mount___init__) rfl
  have F1 : Fun K "__init__" "Mount.__init__" sMtI (He.ma K (He.ga K "Mount") "__init__") fd := He5.fun_of F
  exact ⟨fd, F1, F1.binds (ps := ["self", "number", "space", "tree", "root"]) fun _ _ _ _ _ _ us hl => match us, hl with | [_, _, _, _, _], _ => rfl⟩
theorem f_Mount_kind (c : He.SaysD fa fn K) : ∃ fd, Fun K "kind" "Mount.kind" sMtK (He.ma K (He.ga K "Mount") "kind") fd ∧ Binds K fd ["self", "masters"] [] := by
  obtain ⟨fd, F⟩ := c.def_ 16 (d := d_Mount_kind) rfl
  have F1 : Fun K "kind" "Mount.kind" sMtK (He.ma K (He.ga K "Mount") "kind") fd := He5.fun_of F
  exact ⟨fd, F1, F1.binds (ps := ["self", "masters"]) fun _ _ _ _ _ _ us hl => match us, hl with | [_, _], _ => rfl⟩
theorem f_Table___init__ (c : He.SaysD fa fn K) : ∃ fd, Fun K "__init__" "Table.__init__" sTbI (He.ma K (He.ga K "Table") "__init__") fd ∧ Binds K fd ["self", "trees", "most"] [] := by
  obtain ⟨fd, F⟩ := c.def_ 17 (d := d_Table___init__) rfl
  have F1 : Fun K "__init__" "Table.__init__" sTbI (He.ma K (He.ga K "Table") "__init__") fd := He5.fun_of F
  exact ⟨fd, F1, F1.binds (ps := ["self", "trees", "most"]) fun _ _ _ _ _ _ us hl => match us, hl with | [_, _, _], _ => rfl⟩
theorem f_Table_next (c : He.SaysD fa fn K) : ∃ fd, Fun K "next" "Table.next" sNext (He.ma K (He.ga K "Table") "next") fd ∧ Binds K fd ["self", "what"] [] := by
  obtain ⟨fd, F⟩ := c.def_ 18 (d := d_Table_next) rfl
  have F1 : Fun K "next" "Table.next" sNext (He.ma K (He.ga K "Table") "next") fd := He5.fun_of F
  exact ⟨fd, F1, F1.binds (ps := ["self", "what"]) fun _ _ _ _ _ _ us hl => match us, hl with | [_, _], _ => rfl⟩
theorem f_Table_mount (c : He.SaysD fa fn K) : ∃ fd, Fun K "mount" "Table.mount" sMount (He.ma K (He.ga K "Table") "mount") fd ∧ Binds K fd ["self", "number"] [] := by
  obtain ⟨fd, F⟩ := c.def_ 19 (d := d_Table_mount) rfl
  have F1 : Fun K "mount" "Table.mount" sMount (He.ma K (He.ga K "Table") "mount") fd := He5.fun_of F
  exact ⟨fd, F1, F1.binds (ps := ["self", "number"]) fun _ _ _ _ _ _ us hl => match us, hl with | [_, _], _ => rfl⟩
theorem f_Table_sure_space (c : He.SaysD fa fn K) : ∃ fd, Fun K "sure_space" "Table.sure_space" sSureS (He.ma K (He.ga K "Table") "sure_space") fd ∧ Binds K fd ["self", "space"] [] := by
  obtain ⟨fd, F⟩ := c.def_ 20 (d := d_Table_sure_space) rfl
  have F1 : Fun K "sure_space" "Table.sure_space" sSureS (He.ma K (He.ga K "Table") "sure_space") fd := He5.fun_of F
  exact ⟨fd, F1, F1.binds (ps := ["self", "space"]) fun _ _ _ _ _ _ us hl => match us, hl with | [_, _], _ => rfl⟩
theorem f_Table_new_mount (c : He.SaysD fa fn K) : ∃ fd, Fun K "new_mount" "Table.new_mount" sNewM (He.ma K (He.ga K "Table") "new_mount") fd ∧ Binds K fd ["self", "space", "tree", "root"] [] := by
  obtain ⟨fd, F⟩ := c.def_ 21 (d := d_Table_new_mount) rfl
  have F1 : Fun K "new_mount" "Table.new_mount" sNewM (He.ma K (He.ga K "Table") "new_mount") fd := He5.fun_of F
  exact ⟨fd, F1, F1.binds (ps := ["self", "space", "tree", "root"]) fun _ _ _ _ _ _ us hl => match us, hl with | [_, _, _, _], _ => rfl⟩
theorem f_Table_children (c : He.SaysD fa fn K) : ∃ fd, Fun K "children" "Table.children" sChild (He.ma K (He.ga K "Table") "children") fd ∧ Binds K fd ["self", "number"] [] := by
  obtain ⟨fd, F⟩ := c.def_ 22 (d := d_Table_children) rfl
  have F1 : Fun K "children" "Table.children" sChild (He.ma K (He.ga K "Table") "children") fd := He5.fun_of F
  exact ⟨fd, F1, F1.binds (ps := ["self", "number"]) fun _ _ _ _ _ _ us hl => match us, hl with | [_, _], _ => rfl⟩
theorem f_Table_receivers (c : He.SaysD fa fn K) : ∃ fd, Fun K "receivers" "Table.receivers" sTRec (He.ma K (He.ga K "Table") "receivers") fd ∧ Binds K fd ["self", "mount"] [] := by
  obtain ⟨fd, F⟩ := c.def_ 23 (d := d_Table_receivers) rfl
  have F1 : Fun K "receivers" "Table.receivers" sTRec (He.ma K (He.ga K "Table") "receivers") fd := He5.fun_of F
  exact ⟨fd, F1, F1.binds (ps := ["self", "mount"]) fun _ _ _ _ _ _ us hl => match us, hl with | [_, _], _ => rfl⟩
theorem f_World___init__ (c : He.SaysD fa fn K) : ∃ fd ds its, FunD K "__init__" "World.__init__" (defArgs sWoI) (defBody sWoI) (defScope sWoI) [.int 1000] [] (He.ma K (He.ga K "World") "__init__") fd ∧ (Binds K fd ps4 ds ∧ Vals [] ds) ∧ KBn K fd ps4 2 ["first"] (fun us ws => us ++ (ws ++ its)) (fun vs zs => vs ++ (zs ++ [.int 1000])) := by
  obtain ⟨fd, F⟩ := c.def_ 24 (d := d_World___init__) rfl
  have F1 : FunD K "__init__" "World.__init__" (defArgs sWoI) (defBody sWoI) (defScope sWoI) [.int 1000] [] (He.ma K (He.ga K "World") "__init__") fd := F
  obtain ⟨ds, v, b⟩ := F1.binds1 (ps := ps4) 4 1 (by simp) rfl fun _ _ _ _ _ _ _ us its h1 h2 => match us, its, h1, h2 with | [_, _, _, _], [_], _, _ => ⟨_, rfl, rfl⟩
  obtain ⟨its, kb⟩ := F1.kbindsD (ps := ps4) 2 ["first"] (fun us its ws => us ++ (ws ++ its)) (by simp) (fun r1 r2 r3 => r1.append (r3.append r2)) fun _ _ _ _ _ _ _ us its ws h1 h2 h3 => match us, its, ws, h1, h2, h3 with | [_, _], [_], [_], _, _, _ => ⟨_, rfl, rfl⟩
  exact ⟨fd, ds, its, F1, ⟨b, v⟩, kb⟩
theorem f_World_past (c : He.SaysD fa fn K) : ∃ fd, Fun K "past" "World.past" sPast (He.ma K (He.ga K "World") "past") fd ∧ Binds K fd ["self"] [] := by
  obtain ⟨fd, F⟩ := c.def_ 25 (d := d_World_past) rfl
  have F1 : Fun K "past" "World.past" sPast (He.ma K (He.ga K "World") "past") fd := He5.fun_of F
  exact ⟨fd, F1, F1.binds (ps := ["self"]) fun _ _ _ _ _ _ us hl => match us, hl with | [_], _ => rfl⟩
theorem f_World_walk (c : He.SaysD fa fn K) : ∃ fd, Fun K "walk" "World.walk" sWalk (He.ma K (He.ga K "World") "walk") fd ∧ Binds K fd ["self", "space", "path"] [] := by
  obtain ⟨fd, F⟩ := c.def_ 26 (d := d_World_walk) rfl
  have F1 : Fun K "walk" "World.walk" sWalk (He.ma K (He.ga K "World") "walk") fd := He5.fun_of F
  exact ⟨fd, F1, F1.binds (ps := ["self", "space", "path"]) fun _ _ _ _ _ _ us hl => match us, hl with | [_, _, _], _ => rfl⟩
theorem f_World_path_of (c : He.SaysD fa fn K) : ∃ fd, Fun K "path_of" "World.path_of" sPathOf (He.ma K (He.ga K "World") "path_of") fd ∧ Binds K fd ["self", "number", "node"] [] := by
  obtain ⟨fd, F⟩ := c.def_ 27 (d := d_World_path_of) rfl
  have F1 : Fun K "path_of" "World.path_of" sPathOf (He.ma K (He.ga K "World") "path_of") fd := He5.fun_of F
  exact ⟨fd, F1, F1.binds (ps := ["self", "number", "node"]) fun _ _ _ _ _ _ us hl => match us, hl with | [_, _, _], _ => rfl⟩
theorem f_World_shown (c : He.SaysD fa fn K) : ∃ fd, Fun K "shown" "World.shown" sShown (He.ma K (He.ga K "World") "shown") fd ∧ Binds K fd ["self", "space"] [] := by
  obtain ⟨fd, F⟩ := c.def_ 28 (d := d_World_shown) rfl
  have F1 : Fun K "shown" "World.shown" sShown (He.ma K (He.ga K "World") "shown") fd := He5.fun_of F
  exact ⟨fd, F1, F1.binds (ps := ["self", "space"]) fun _ _ _ _ _ _ us hl => match us, hl with | [_, _], _ => rfl⟩
theorem f_World_spaces (c : He.SaysD fa fn K) : ∃ fd, Fun K "spaces" "World.spaces" sSpaces (He.ma K (He.ga K "World") "spaces") fd ∧ Binds K fd ["self"] [] := by
  obtain ⟨fd, F⟩ := c.def_ 29 (d := d_World_spaces) rfl
  have F1 : Fun K "spaces" "World.spaces" sSpaces (He.ma K (He.ga K "World") "spaces") fd := He5.fun_of F
  exact ⟨fd, F1, F1.binds (ps := ["self"]) fun _ _ _ _ _ _ us hl => match us, hl with | [_], _ => rfl⟩
theorem f_World_mounts (c : He.SaysD fa fn K) : ∃ fd, Fun K "mounts" "World.mounts" sMounts (He.ma K (He.ga K "World") "mounts") fd ∧ Binds K fd ["self", "space"] [] := by
  obtain ⟨fd, F⟩ := c.def_ 30 (d := d_World_mounts) rfl
  have F1 : Fun K "mounts" "World.mounts" sMounts (He.ma K (He.ga K "World") "mounts") fd := He5.fun_of F
  exact ⟨fd, F1, F1.binds (ps := ["self", "space"]) fun _ _ _ _ _ _ us hl => match us, hl with | [_, _], _ => rfl⟩
theorem f_World_told (c : He.SaysD fa fn K) : ∃ fd, Fun K "told" "World.told" sTold (He.ma K (He.ga K "World") "told") fd ∧ Binds K fd ["self", "number"] [] := by
  obtain ⟨fd, F⟩ := c.def_ 31 (d := d_World_told) rfl
  have F1 : Fun K "told" "World.told" sTold (He.ma K (He.ga K "World") "told") fd := He5.fun_of F
  exact ⟨fd, F1, F1.binds (ps := ["self", "number"]) fun _ _ _ _ _ _ us hl => match us, hl with | [_, _], _ => rfl⟩
theorem f_World_peers (c : He.SaysD fa fn K) : ∃ fd, Fun K "peers" "World.peers" sPeers (He.ma K (He.ga K "World") "peers") fd ∧ Binds K fd ["self", "number"] [] := by
  obtain ⟨fd, F⟩ := c.def_ 32 (d := d_World_peers) rfl
  have F1 : Fun K "peers" "World.peers" sPeers (He.ma K (He.ga K "World") "peers") fd := He5.fun_of F
  exact ⟨fd, F1, F1.binds (ps := ["self", "number"]) fun _ _ _ _ _ _ us hl => match us, hl with | [_, _], _ => rfl⟩
theorem f_World_followed (c : He.SaysD fa fn K) : ∃ fd, Fun K "followed" "World.followed" sFollowed (He.ma K (He.ga K "World") "followed") fd ∧ Binds K fd ["self", "number"] [] := by
  obtain ⟨fd, F⟩ := c.def_ 33 (d := d_World_followed) rfl
  have F1 : Fun K "followed" "World.followed" sFollowed (He.ma K (He.ga K "World") "followed") fd := He5.fun_of F
  exact ⟨fd, F1, F1.binds (ps := ["self", "number"]) fun _ _ _ _ _ _ us hl => match us, hl with | [_, _], _ => rfl⟩
theorem f_World_receivers (c : He.SaysD fa fn K) : ∃ fd, Fun K "receivers" "World.receivers" sReceivers (He.ma K (He.ga K "World") "receivers") fd ∧ Binds K fd ["self", "number"] [] := by
  obtain ⟨fd, F⟩ := c.def_ 34 (d := d_World_receivers) rfl
  have F1 : Fun K "receivers" "World.receivers" sReceivers (He.ma K (He.ga K "World") "receivers") fd := He5.fun_of F
  exact ⟨fd, F1, F1.binds (ps := ["self", "number"]) fun _ _ _ _ _ _ us hl => match us, hl with | [_, _], _ => rfl⟩
theorem f_World_owner (c : He.SaysD fa fn K) : ∃ fd, Fun K "owner" "World.owner" sOwner (He.ma K (He.ga K "World") "owner") fd ∧ Binds K fd ["self", "space"] [] := by
  obtain ⟨fd, F⟩ := c.def_ 35 (d := d_World_owner) rfl
  have F1 : Fun K "owner" "World.owner" sOwner (He.ma K (He.ga K "World") "owner") fd := He5.fun_of F
  exact ⟨fd, F1, F1.binds (ps := ["self", "space"]) fun _ _ _ _ _ _ us hl => match us, hl with | [_, _], _ => rfl⟩
theorem f_World_trusted (c : He.SaysD fa fn K) : ∃ fd, Fun K "trusted" "World.trusted" sTrusted (He.ma K (He.ga K "World") "trusted") fd ∧ Binds K fd ["self", "space"] [] := by
  obtain ⟨fd, F⟩ := c.def_ 36 (d := d_World_trusted) rfl
  have F1 : Fun K "trusted" "World.trusted" sTrusted (He.ma K (He.ga K "World") "trusted") fd := He5.fun_of F
  exact ⟨fd, F1, F1.binds (ps := ["self", "space"]) fun _ _ _ _ _ _ us hl => match us, hl with | [_, _], _ => rfl⟩
theorem f_World_plain (c : He.SaysD fa fn K) : ∃ fd, Fun K "plain" "World.plain" sPlain (He.ma K (He.ga K "World") "plain") fd ∧ Binds K fd ["self", "space"] [] := by
  obtain ⟨fd, F⟩ := c.def_ 37 (d := d_World_plain) rfl
  have F1 : Fun K "plain" "World.plain" sPlain (He.ma K (He.ga K "World") "plain") fd := He5.fun_of F
  exact ⟨fd, F1, F1.binds (ps := ["self", "space"]) fun _ _ _ _ _ _ us hl => match us, hl with | [_, _], _ => rfl⟩
theorem f_World_shape (c : He.SaysD fa fn K) : ∃ fd, Fun K "shape" "World.shape" sShape (He.ma K (He.ga K "World") "shape") fd ∧ Binds K fd ["self"] [] := by
  obtain ⟨fd, F⟩ := c.def_ 38 (d := d_World_shape) rfl
  have F1 : Fun K "shape" "World.shape" sShape (He.ma K (He.ga K "World") "shape") fd := He5.fun_of F
  exact ⟨fd, F1, F1.binds (ps := ["self"]) fun _ _ _ _ _ _ us hl => match us, hl with | [_], _ => rfl⟩
theorem f_Labels___init__ (c : He.SaysD fa fn K) : ∃ fd, Fun K "__init__" "Labels.__init__" sLbI (He.ma K (He.ga K "Labels") "__init__") fd ∧ Binds K fd ["self", "table"] [] := by
  obtain ⟨fd, F⟩ := c.def_ 39 (d := d_Labels___init__) rfl
  have F1 : Fun K "__init__" "Labels.__init__" sLbI (He.ma K (He.ga K "Labels") "__init__") fd := He5.fun_of F
  exact ⟨fd, F1, F1.binds (ps := ["self", "table"]) fun _ _ _ _ _ _ us hl => match us, hl with | [_, _], _ => rfl⟩
theorem f_Labels_group_label (c : He.SaysD fa fn K) : ∃ fd, Fun K "group_label" "Labels.group_label" sLbG (He.ma K (He.ga K "Labels") "group_label") fd ∧ Binds K fd ["self", "group"] [] := by
  obtain ⟨fd, F⟩ := c.def_ 40 (d := d_Labels_group_label) rfl
  have F1 : Fun K "group_label" "Labels.group_label" sLbG (He.ma K (He.ga K "Labels") "group_label") fd := He5.fun_of F
  exact ⟨fd, F1, F1.binds (ps := ["self", "group"]) fun _ _ _ _ _ _ us hl => match us, hl with | [_, _], _ => rfl⟩
theorem f_Labels_label (c : He.SaysD fa fn K) : ∃ fd, Fun K "label" "Labels.label" sLbL (He.ma K (He.ga K "Labels") "label") fd ∧ Binds K fd ["self", "mount"] [] := by
  obtain ⟨fd, F⟩ := c.def_ 41 (d := d_Labels_label) rfl
  have F1 : Fun K "label" "Labels.label" sLbL (He.ma K (He.ga K "Labels") "label") fd := He5.fun_of F
  exact ⟨fd, F1, F1.binds (ps := ["self", "mount"]) fun _ _ _ _ _ _ us hl => match us, hl with | [_, _], _ => rfl⟩
theorem f_Labels_form (c : He.SaysD fa fn K) : ∃ fd, Fun K "form" "Labels.form" sLbF (He.ma K (He.ga K "Labels") "form") fd ∧ Binds K fd ["self", "mount"] [] := by
  obtain ⟨fd, F⟩ := c.def_ 42 (d := d_Labels_form) rfl
  have F1 : Fun K "form" "Labels.form" sLbF (He.ma K (He.ga K "Labels") "form") fd := He5.fun_of F
  exact ⟨fd, F1, F1.binds (ps := ["self", "mount"]) fun _ _ _ _ _ _ us hl => match us, hl with | [_, _], _ => rfl⟩
theorem f_Bi (X : K.In h) (G : h.Ns mainGlobals mg) (c : He.SaysD fa fn K) : Bi mg := ⟨(He.free_ok X G (c.fact 0 (f := .free "isinstance") rfl)), (He.free_ok X G (c.fact 1 (f := .free "int") rfl)), (He.free_ok X G (c.fact 2 (f := .free "bool") rfl)), (He.free_ok X G (c.fact 3 (f := .free "str") rfl)), (He.free_ok X G (c.fact 4 (f := .free "dict") rfl)), (He.free_ok X G (c.fact 5 (f := .free "tuple") rfl)), (He.free_ok X G (c.fact 6 (f := .free "range") rfl)), (He.free_ok X G (c.fact 7 (f := .free "len") rfl)), (He.free_ok X G (c.fact 8 (f := .free "all") rfl)), (He.free_ok X G (c.fact 9 (f := .free "any") rfl)), (He.free_ok X G (c.fact 10 (f := .free "sorted") rfl))⟩
theorem f_Co (X : K.In h) (G : h.Ns mainGlobals mg) (c : He.SaysD fa fn K) : Co mg := ⟨He.str_ok X G (c.fact 38 (f := .str "LETTERS" letters) rfl), He.int_ok X G (c.fact 39 (f := .int "MOST_NODES" 60) rfl), He.int_ok X G (c.fact 40 (f := .int "MOST_DEPTH" 8) rfl)⟩
theorem f_EcNoTree (X : K.In h) (G : h.Ns mainGlobals mg) (c : He.SaysD fa fn K) : Ec K mg "NoTree" (He.ga K "NoTree") := by
  obtain ⟨h1, h2, h3, h4⟩ := He.exc_ok (c.fact 52 (f := .exc "NoTree") rfl)
  exact ⟨(He.glo_ok X G (c.fact 34 (f := .glo "NoTree") rfl)), h1, h2, h3, h4⟩
theorem f_EcNoNumber (X : K.In h) (G : h.Ns mainGlobals mg) (c : He.SaysD fa fn K) : Ec K mg "NoNumber" (He.ga K "NoNumber") := by
  obtain ⟨h1, h2, h3, h4⟩ := He.exc_ok (c.fact 53 (f := .exc "NoNumber") rfl)
  exact ⟨(He.glo_ok X G (c.fact 35 (f := .glo "NoNumber") rfl)), h1, h2, h3, h4⟩
theorem f_EcNoSpace (X : K.In h) (G : h.Ns mainGlobals mg) (c : He.SaysD fa fn K) : Ec K mg "NoSpace" (He.ga K "NoSpace") := by
  obtain ⟨h1, h2, h3, h4⟩ := He.exc_ok (c.fact 54 (f := .exc "NoSpace") rfl)
  exact ⟨(He.glo_ok X G (c.fact 36 (f := .glo "NoSpace") rfl)), h1, h2, h3, h4⟩
theorem f_EcNoMount (X : K.In h) (G : h.Ns mainGlobals mg) (c : He.SaysD fa fn K) : Ec K mg "NoMount" (He.ga K "NoMount") := by
  obtain ⟨h1, h2, h3, h4⟩ := He.exc_ok (c.fact 55 (f := .exc "NoMount") rfl)
  exact ⟨(He.glo_ok X G (c.fact 37 (f := .glo "NoMount") rfl)), h1, h2, h3, h4⟩
theorem f_No (X : K.In h) (G : h.Ns mainGlobals mg) (c : He.SaysD fa fn K) : No K mg (He.ga K "NoTree") := ⟨(f_EcNoTree X G c).g, (f_EcNoTree X G c).x, (f_EcNoTree X G c).k, (f_EcNoTree X G c).b, (f_EcNoTree X G c).t, He.exm_ok (c.fact 60 (f := .exm "NoTree" "NoTree" true) rfl)⟩
theorem f_CnMount (c : He.SaysD fa fn K) : Cn K (He.ga K "Mount") mtN := ⟨He.cls_ok (c.fact 42 (f := .cls "Mount") rfl), fun f hf => He.noat_ok (c.facts (f := .noat "Mount" f) (by
  have m : He.Fa.noat "Mount" f ∈ mtN.map (fun f => He.Fa.noat "Mount" f) := List.mem_map_of_mem hf
  simp only [fa, fa6, List.mem_append]
  simp only [m, or_true, true_or]))⟩
theorem f_CnTable (c : He.SaysD fa fn K) : Cn K (He.ga K "Table") tbN := ⟨He.cls_ok (c.fact 43 (f := .cls "Table") rfl), fun f hf => He.noat_ok (c.facts (f := .noat "Table" f) (by
  have m : He.Fa.noat "Table" f ∈ tbN.map (fun f => He.Fa.noat "Table" f) := List.mem_map_of_mem hf
  simp only [fa, fa6, List.mem_append]
  simp only [m, or_true, true_or]))⟩
theorem f_CnWorld (c : He.SaysD fa fn K) : Cn K (He.ga K "World") woN := ⟨He.cls_ok (c.fact 44 (f := .cls "World") rfl), fun f hf => He.noat_ok (c.facts (f := .noat "World" f) (by
  have m : He.Fa.noat "World" f ∈ woN.map (fun f => He.Fa.noat "World" f) := List.mem_map_of_mem hf
  simp only [fa, fa6, List.mem_append]
  simp only [m, or_true, true_or]))⟩
theorem f_CnLabels (c : He.SaysD fa fn K) : Cn K (He.ga K "Labels") lbN := ⟨He.cls_ok (c.fact 45 (f := .cls "Labels") rfl), fun f hf => He.noat_ok (c.facts (f := .noat "Labels" f) (by
  have m : He.Fa.noat "Labels" f ∈ lbN.map (fun f => He.Fa.noat "Labels" f) := List.mem_map_of_mem hf
  simp only [fa, fa6, List.mem_append]
  simp only [m, or_true, true_or]))⟩
theorem f_Tr (X : K.In h) (G : h.Ns mainGlobals mg) (c : He.SaysD fa fn K) : Tr K mg (He.ga K "Tree") := ⟨He.cls_ok (c.fact 41 (f := .cls "Tree") rfl), He.noat_ok (c.fact 46 (f := .noat "Tree" "nodes") rfl), (He.glo_ok X G (c.fact 28 (f := .glo "Tree") rfl))⟩
theorem mem4 (i : Fin 4) : i ∈ fs4 := by
  match i with
  | 0 | 1 | 2 | 3 => decide
theorem ex_all (e : exB K = true) : (∀ i, ExcC K (He.ga K (nm4 i))) ∧ trB K (He.ga K "Tree") = true ∧ kitB4 K = true ∧ Hk.tP K "_law_doors" ≠ Hk.tP K "law" := by
  obtain ⟨h1, h⟩ := He.ba e
  obtain ⟨h2, h⟩ := He.ba h
  obtain ⟨h3, h6⟩ := He.ba h
  refine ⟨fun i => excB_ok (List.all_eq_true.mp h1 i (mem4 i)), h2, h3, fun z => ?_⟩
  rw [z] at h6
  simp at h6
theorem f_TrI (X : K.In h) (G : h.Ns mainGlobals mg) (c : He.SaysD fa fn K) (e : exB K = true) : TrI K mg (He.ga K "Tree") := by
  have h := (ex_all e).2.1
  simp only [trB, Bool.and_eq_true, decide_eq_true_eq] at h
  obtain ⟨h1, h2, h3, h4, h5, h6⟩ := h
  exact ⟨(f_Tr X G c).cl, (f_Tr X G c).mgC, h1, h2, h3, h4, h5, h6⟩
theorem kit_ok (e : exB K = true) (i j : Fin 4) : PySem.W.kitOne K (.ref (He.ga K (nm4 i))) (.ref (He.ga K (nm4 j))) = some (decide (i = j)) :=
  of_decide_eq_true (List.all_eq_true.mp (List.all_eq_true.mp (ex_all e).2.2.1 i (mem4 i)) j (mem4 j))
theorem f_E4 (X : K.In h) (G : h.Ns mainGlobals mg) (c : He.SaysD fa fn K) (e : exB K = true) : E4 K mg (He.ga K "MountError") (fun i => He.ga K (nm4 i)) := ⟨(He.glo_ok X G (c.fact 33 (f := .glo "MountError") rfl)), (fun i => match i with | 0 => (He.glo_ok X G (c.fact 34 (f := .glo "NoTree") rfl)) | 1 => (He.glo_ok X G (c.fact 35 (f := .glo "NoNumber") rfl)) | 2 => (He.glo_ok X G (c.fact 36 (f := .glo "NoSpace") rfl)) | 3 => (He.glo_ok X G (c.fact 37 (f := .glo "NoMount") rfl))), (ex_all e).1, (fun i => match i with | 0 => He.exm_ok (c.fact 56 (f := .exm "NoTree" "MountError" true) rfl) | 1 => He.exm_ok (c.fact 57 (f := .exm "NoNumber" "MountError" true) rfl) | 2 => He.exm_ok (c.fact 58 (f := .exm "NoSpace" "MountError" true) rfl) | 3 => He.exm_ok (c.fact 59 (f := .exm "NoMount" "MountError" true) rfl)), fun i j => kit_ok e i j⟩
def tabs (K : PySem.W.Frag) : List (Addr × Str) := [(Hk.tP K "_law_doors", lamQD), (Hk.tP K "law", lamQL)]
def cps (K : PySem.W.Frag) : List (Addr × Addr) := [(Hk.tC K "_law_doors", Hk.tP K "_law_doors"), (Hk.tC K "law", Hk.tP K "law")]
theorem facts {f : Addr} (X : K.In h) (G : h.Ns mainGlobals mg) (hfa : mg ("law" : Str) = some (.ref f)) (cc : Hk.Says fa fn ts exB w K) :
    ∃ fd : FuncData, (∀ (s : Shared) (v : Value), BindsTo s fd ⟨[v], []⟩ [("_law_script", v)]) ∧ ∀ base : Heap, K.In base → base.Ns mainGlobals mg → (∀ p ∈ cps K, LamX.TabB base mg p.1 p.2) → FnOk P w K mg base CX0 15 f fd ["_law_script"] (spLaw K (tabs K)) := by
  have c : He.SaysD fa fn K := cc.t.d
  have e := cc.more
  have B := f_Bi X G c
  have Cc := f_Co X G c
  have cM := f_CnMount c
  have cT := f_CnTable c
  have cW := f_CnWorld c
  have cL := f_CnLabels c
  obtain ⟨dis_whole, Fis_whole, bis_whole⟩ := f_is_whole c
  obtain ⟨dis_name, Fis_name, bis_name⟩ := f_is_name c
  obtain ⟨dis_path, Fis_path, bis_path⟩ := f_is_path c
  obtain ⟨dnode_value, Fnode_value, bnode_value⟩ := f_node_value c
  obtain ⟨dpath_to, Fpath_to, bpath_to⟩ := f_path_to c
  obtain ⟨dare_trees, Fare_trees, bare_trees⟩ := f_are_trees c
  obtain ⟨dplain_form, Fplain_form, bplain_form⟩ := f_plain_form c
  obtain ⟨d_law_cell_at, F_law_cell_at, b_law_cell_at⟩ := f__law_cell_at c
  obtain ⟨d_law_digit, F_law_digit, b_law_digit⟩ := f__law_digit c
  obtain ⟨d_law_tree, F_law_tree, b_law_tree⟩ := f__law_tree c
  obtain ⟨d_law_word, F_law_word, b_law_word⟩ := f__law_word c
  obtain ⟨d_law_doors, F_law_doors, b_law_doors⟩ := f__law_doors c
  obtain ⟨d_law_named, F_law_named, b_law_named⟩ := f__law_named c
  obtain ⟨dlaw, Flaw, blaw⟩ := f_law c
  obtain ⟨dTree__init__, FTree__init__, bTree__init__⟩ := f_Tree___init__ c
  obtain ⟨dMount__init__, FMount__init__, bMount__init__⟩ := f_Mount___init__ c
  obtain ⟨dMountkind, FMountkind, bMountkind⟩ := f_Mount_kind c
  have MMountkind := He.meth_ok (c.fact 61 (f := .meth "Mount" "kind") rfl)
  obtain ⟨dTable__init__, FTable__init__, bTable__init__⟩ := f_Table___init__ c
  obtain ⟨dTablenext, FTablenext, bTablenext⟩ := f_Table_next c
  have MTablenext := He.meth_ok (c.fact 62 (f := .meth "Table" "next") rfl)
  obtain ⟨dTablemount, FTablemount, bTablemount⟩ := f_Table_mount c
  have MTablemount := He.meth_ok (c.fact 63 (f := .meth "Table" "mount") rfl)
  obtain ⟨dTablesure_space, FTablesure_space, bTablesure_space⟩ := f_Table_sure_space c
  have MTablesure_space := He.meth_ok (c.fact 64 (f := .meth "Table" "sure_space") rfl)
  obtain ⟨dTablenew_mount, FTablenew_mount, bTablenew_mount⟩ := f_Table_new_mount c
  have MTablenew_mount := He.meth_ok (c.fact 65 (f := .meth "Table" "new_mount") rfl)
  obtain ⟨dTablechildren, FTablechildren, bTablechildren⟩ := f_Table_children c
  have MTablechildren := He.meth_ok (c.fact 66 (f := .meth "Table" "children") rfl)
  obtain ⟨dTablereceivers, FTablereceivers, bTablereceivers⟩ := f_Table_receivers c
  have MTablereceivers := He.meth_ok (c.fact 67 (f := .meth "Table" "receivers") rfl)
  obtain ⟨dWI, ds, its, FWI, bWI, kWI⟩ := f_World___init__ c
  obtain ⟨dWorldpast, FWorldpast, bWorldpast⟩ := f_World_past c
  have MWorldpast := He.meth_ok (c.fact 68 (f := .meth "World" "past") rfl)
  obtain ⟨dWorldwalk, FWorldwalk, bWorldwalk⟩ := f_World_walk c
  have MWorldwalk := He.meth_ok (c.fact 69 (f := .meth "World" "walk") rfl)
  obtain ⟨dWorldpath_of, FWorldpath_of, bWorldpath_of⟩ := f_World_path_of c
  have MWorldpath_of := He.meth_ok (c.fact 70 (f := .meth "World" "path_of") rfl)
  obtain ⟨dWorldshown, FWorldshown, bWorldshown⟩ := f_World_shown c
  have MWorldshown := He.meth_ok (c.fact 71 (f := .meth "World" "shown") rfl)
  obtain ⟨dWorldspaces, FWorldspaces, bWorldspaces⟩ := f_World_spaces c
  have MWorldspaces := He.meth_ok (c.fact 72 (f := .meth "World" "spaces") rfl)
  obtain ⟨dWorldmounts, FWorldmounts, bWorldmounts⟩ := f_World_mounts c
  have MWorldmounts := He.meth_ok (c.fact 73 (f := .meth "World" "mounts") rfl)
  obtain ⟨dWorldtold, FWorldtold, bWorldtold⟩ := f_World_told c
  have MWorldtold := He.meth_ok (c.fact 74 (f := .meth "World" "told") rfl)
  obtain ⟨dWorldpeers, FWorldpeers, bWorldpeers⟩ := f_World_peers c
  have MWorldpeers := He.meth_ok (c.fact 75 (f := .meth "World" "peers") rfl)
  obtain ⟨dWorldfollowed, FWorldfollowed, bWorldfollowed⟩ := f_World_followed c
  have MWorldfollowed := He.meth_ok (c.fact 76 (f := .meth "World" "followed") rfl)
  obtain ⟨dWorldreceivers, FWorldreceivers, bWorldreceivers⟩ := f_World_receivers c
  have MWorldreceivers := He.meth_ok (c.fact 77 (f := .meth "World" "receivers") rfl)
  obtain ⟨dWorldowner, FWorldowner, bWorldowner⟩ := f_World_owner c
  have MWorldowner := He.meth_ok (c.fact 78 (f := .meth "World" "owner") rfl)
  obtain ⟨dWorldtrusted, FWorldtrusted, bWorldtrusted⟩ := f_World_trusted c
  have MWorldtrusted := He.meth_ok (c.fact 79 (f := .meth "World" "trusted") rfl)
  obtain ⟨dWorldplain, FWorldplain, bWorldplain⟩ := f_World_plain c
  have MWorldplain := He.meth_ok (c.fact 80 (f := .meth "World" "plain") rfl)
  obtain ⟨dWorldshape, FWorldshape, bWorldshape⟩ := f_World_shape c
  have MWorldshape := He.meth_ok (c.fact 81 (f := .meth "World" "shape") rfl)
  obtain ⟨dLabels__init__, FLabels__init__, bLabels__init__⟩ := f_Labels___init__ c
  obtain ⟨dLabelsgroup_label, FLabelsgroup_label, bLabelsgroup_label⟩ := f_Labels_group_label c
  have MLabelsgroup_label := He.meth_ok (c.fact 82 (f := .meth "Labels" "group_label") rfl)
  obtain ⟨dLabelslabel, FLabelslabel, bLabelslabel⟩ := f_Labels_label c
  have MLabelslabel := He.meth_ok (c.fact 83 (f := .meth "Labels" "label") rfl)
  obtain ⟨dLabelsform, FLabelsform, bLabelsform⟩ := f_Labels_form c
  have MLabelsform := He.meth_ok (c.fact 84 (f := .meth "Labels" "form") rfl)
  have KTree := He.mkr_ok (c.fact 47 (f := .mkr "Tree") rfl)
  have KMount := He.mkr_ok (c.fact 48 (f := .mkr "Mount") rfl)
  have KTable := He.mkr_ok (c.fact 49 (f := .mkr "Table") rfl)
  have KWorld := He.mkr_ok (c.fact 50 (f := .mkr "World") rfl)
  have KLabels := He.mkr_ok (c.fact 51 (f := .mkr "Labels") rfl)
  have ef := hfa.symm.trans (He.glo_ok X G (c.fact 27 (f := .glo "law") rfl))
  cases ef
  have hlist := (He.free_ok X G (c.fact 11 (f := .free "list") rfl))
  have hmax := (He.free_ok X G (c.fact 12 (f := .free "max") rfl))
  have hmin := (He.free_ok X G (c.fact 13 (f := .free "min") rfl))
  obtain ⟨oc1, od1, an1, kV1, dc1, pm1, ct1, sl1, e1, lk1, hc1⟩ := Hk.fun_ref Flaw
  obtain ⟨oc2, od2, an2, kV2, dc2, pm2, ct2, sl2, e2, lk2, hc2⟩ := Hk.fun_ref F_law_doors
  subst e1
  subst e2
  refine ⟨PySem.W.fnOf "law" "law" (defArgs sLaw) (defBody sLaw) (defScope sLaw) .none kV1 dc1 pm1 an1 (.ref (Hk.fnCode K (He.ga K "law"))) ct1, fun s v => .of_eq rfl, fun base _ _ TB => ?_⟩
  have ne := (ex_all e).2.2.2
  have LD : LmT base mg (tabs K) (Hk.tC K "_law_doors") (Hk.tP K "_law_doors") lamQD := ⟨TB _ (.head _), .head _, fun p hp hq => by
    rcases List.mem_cons.mp hp with z | z
    · rw [z]
    · rw [List.mem_singleton.mp z] at hq
      exact absurd hq.symm ne⟩
  have LL : LmT base mg (tabs K) (Hk.tC K "law") (Hk.tP K "law") lamQL := ⟨TB _ (.tail _ (.head _)), .tail _ (.head _), fun p hp hq => by
    rcases List.mem_cons.mp hp with z | z
    · rw [z] at hq
      exact absurd hq ne
    · rw [List.mem_singleton.mp z]⟩
  have cWh : Cm.Cl P w K mg base CX0 1 "is_whole" ["thing", "low", "high"] (spWhole K) := .of X G (He.eqO_ok (c.fact 14 (f := .glo "is_whole") rfl)) Fis_whole bis_whole (ok_whole Fis_whole B)
  have cNa : Cm.Cl P w K mg base CX0 1 "is_name" ["thing"] (spName K) := .of X G (He.eqO_ok (c.fact 15 (f := .glo "is_name") rfl)) Fis_name bis_name (ok_name Fis_name B Cc)
  have cPa : Cm.Cl P w K mg base CX0 2 "is_path" ["thing"] (spPath K) := .of X G (He.eqO_ok (c.fact 16 (f := .glo "is_path") rfl)) Fis_path bis_path (ok_path (k := 0) (fN := 0) (fdN := dis_name) Fis_path B cNa)
  have cNo : Cm.Cl P w K mg base (L2.CX P w) 12 "node_value" ["thing", "depth", "met"] (spNode (He.ga K "NoTree") 9) := .of X G (He.eqO_ok (c.fact 17 (f := .glo "node_value") rfl)) Fnode_value bnode_value (ok_node Fnode_value (He.glo_ok X G (c.fact 17 (f := .glo "node_value") rfl)) bnode_value B Cc (f_No X G c) cWh cNa cPa 9)
  have cTs : Cm.Cl P w K mg base CX0 2 "are_trees" ["thing"] (spTrees K (He.ga K "Tree")) := .of X G (He.eqO_ok (c.fact 19 (f := .glo "are_trees") rfl)) Fare_trees bare_trees (ok_trees Fare_trees B (f_TrI X G c e) cNa)
  have oMI : FnOk P w K mg base CX0 1 _ _ ["self", "number", "space", "tree", "root"] (spMtI (He.ga K "Mount")) := ok_mtI FMount__init__ cM
  have oTI : FnOk P w K mg base CX0 1 _ _ ["self", "trees", "most"] (spTbI (He.ga K "Table")) := ok_tbI FTable__init__ cT
  have oNx : FnOk P w K mg base CX0 1 _ _ ["self", "what"] (spNext (He.ga K "Table")) := ok_next FTablenext cT
  have oNM : FnOk P w K mg base CX0 3 _ _ ["self", "space", "tree", "root"] (spNewM (He.ga K "Table") (He.ga K "Mount")) := ok_newM FTablenew_mount cT cM MTablenext oNx bTablenext KMount (He.glo_ok X G (c.fact 29 (f := .glo "Mount") rfl)) oMI bMount__init__
  have hWoC : WoC P w K mg base (He.ga K "World") (He.ga K "Table") (He.ga K "Mount") (He.ga K "Tree") := ⟨cW, cT, cM, cTs, cNa, cWh, ⟨_, _, KTable, oTI, bTable__init__⟩, (He.glo_ok X G (c.fact 30 (f := .glo "Table") rfl)), ⟨_, _, MTablenew_mount, oNM, bTablenew_mount⟩, ⟨_, _, MTablenext, oNx, bTablenext⟩⟩
  have oWI := ok_woI FWI B hWoC (f_EcNoTree X G c) (f_EcNoNumber X G c)
  have mK : Mt P w K mg base 1 (He.ga K "Mount") "kind" ["self", "masters"] (spMtK (He.ga K "Mount")) := ⟨_, _, MMountkind, ok_mtK FMountkind cM, bMountkind⟩
  have mCh : Mt P w K mg base 1 (He.ga K "Table") "children" ["self", "number"] (spChild (He.ga K "Table")) := ⟨_, _, MTablechildren, ok_child FTablechildren B cT, bTablechildren⟩
  have mG : Mt P w K mg base 1 (He.ga K "Labels") "group_label" ["self", "group"] spLbG := ⟨_, _, MLabelsgroup_label, ok_lbG FLabelsgroup_label, bLabelsgroup_label⟩
  have mL : Mt P w K mg base 2 (He.ga K "Labels") "label" ["self", "mount"] (spLbL (He.ga K "Labels") (He.ga K "Table") (He.ga K "Mount")) := ⟨_, _, MLabelslabel, ok_lbL FLabelslabel B cL cT cM mG mK, bLabelslabel⟩
  have mF : Mt P w K mg base 3 (He.ga K "Labels") "form" ["self", "mount"] (spLbF (He.ga K "Labels") (He.ga K "Table") (He.ga K "Mount")) := ⟨_, _, MLabelsform, ok_lbF FLabelsform B cL cT cM mL mCh, bLabelsform⟩
  have mSp : Mt P w K mg base 1 (He.ga K "World") "spaces" ["self"] (spSpaces (He.ga K "World") (He.ga K "Table") (He.ga K "Mount")) := ⟨_, _, MWorldspaces, ok_spaces FWorldspaces B cW cT, bWorldspaces⟩
  have oLI : FnOk P w K mg base CX0 1 _ _ ["self", "table"] (spLbI (He.ga K "Labels")) := ok_lbI FLabels__init__ cL
  have mSh : Mt P w K mg base 4 (He.ga K "World") "shape" ["self"] (spShape (He.ga K "World") (He.ga K "Table") (He.ga K "Mount")) := ⟨_, _, MWorldshape, ok_shape FWorldshape B cW cT cL (He.glo_ok X G (c.fact 32 (f := .glo "Labels") rfl)) ⟨_, _, KLabels, oLI, bLabels__init__⟩ mSp mF, bWorldshape⟩
  have mPs : Mt P w K mg base 1 (He.ga K "World") "past" ["self"] (spPast (He.ga K "World") (He.ga K "Table") (He.ga K "Mount")) := ⟨_, _, MWorldpast, ok_past FWorldpast hlist cW, bWorldpast⟩
  have xS : MX P w K mg base 1 (He.ga K "Table") "sure_space" ["self", "space"] (spSureS K (He.ga K "Table") (He.ga K "Mount") (He.ga K "NoSpace")) := ⟨_, _, MTablesure_space, ok_sureS FTablesure_space B cT (f_EcNoSpace X G c), bTablesure_space⟩
  have xM : MX P w K mg base 1 (He.ga K "Table") "mount" ["self", "number"] (spMount K (He.ga K "Table") (He.ga K "Mount") (He.ga K "NoMount")) := ⟨_, _, MTablemount, ok_mount FTablemount B cT (f_EcNoMount X G c), bTablemount⟩
  have mRc : Mt P w K mg base 1 (He.ga K "Table") "receivers" ["self", "mount"] (spTRec (He.ga K "Table") (He.ga K "Mount")) := ⟨_, _, MTablereceivers, ok_tRec FTablereceivers cM, bTablereceivers⟩
  have cPl : Cm.Cl P w K mg base CX0 2 "plain_form" ["table", "mount"] (spPlF (He.ga K "Table") (He.ga K "Mount")) := .of X G (He.eqO_ok (c.fact 20 (f := .glo "plain_form") rfl)) Fplain_form bplain_form (ok_plF Fplain_form B cT cM mCh)
  have cPt : Cm.Cl P w K mg base (L2.CX P w) 2 "path_to" ["table", "number", "node"] (spPT K (He.ga K "Table") (He.ga K "Mount") (He.ga K "NoMount")) := .of X G (He.eqO_ok (c.fact 18 (f := .glo "path_to") rfl)) Fpath_to bpath_to (ok_pathTo Fpath_to cT xM)
  have qMounts : MX P w K mg base 2 (He.ga K "World") "mounts" ["self", "space"] (spWM K (He.ga K "World") (He.ga K "Table") (He.ga K "Mount") (He.ga K "NoSpace") rL0) := ⟨_, _, MWorldmounts, ok_mounts FWorldmounts cW cT xS cM B, bWorldmounts⟩
  have qShown : MX P w K mg base 2 (He.ga K "World") "shown" ["self", "space"] (spWO K (He.ga K "World") (He.ga K "Table") (He.ga K "Mount") (He.ga K "NoSpace")) := ⟨_, _, MWorldshown, ok_shown FWorldshown cW cT xS, bWorldshown⟩
  have qOwner : MX P w K mg base 2 (He.ga K "World") "owner" ["self", "space"] (spWM K (He.ga K "World") (He.ga K "Table") (He.ga K "Mount") (He.ga K "NoSpace") rO) := ⟨_, _, MWorldowner, ok_owner FWorldowner cW cT xS, bWorldowner⟩
  have qTrusted : MX P w K mg base 3 (He.ga K "World") "trusted" ["self", "space"] (spWM K (He.ga K "World") (He.ga K "Table") (He.ga K "Mount") (He.ga K "NoSpace") rT) := ⟨_, _, MWorldtrusted, ok_trusted FWorldtrusted cW qOwner, bWorldtrusted⟩
  have qPlain : MX P w K mg base 3 (He.ga K "World") "plain" ["self", "space"] (spWM K (He.ga K "World") (He.ga K "Table") (He.ga K "Mount") (He.ga K "NoSpace") rPl) := ⟨_, _, MWorldplain, ok_plain FWorldplain cW cT xS cPl, bWorldplain⟩
  have qWalk : MX P w K mg base 2 (He.ga K "World") "walk" ["self", "space", "path"] (spWO2 K (He.ga K "World") (He.ga K "Table") (He.ga K "Mount") (He.ga K "NoSpace")) := ⟨_, _, MWorldwalk, ok_walk FWorldwalk cW cT xS, bWorldwalk⟩
  have qTold : MX P w K mg base 2 (He.ga K "World") "told" ["self", "number"] (spWM K (He.ga K "World") (He.ga K "Table") (He.ga K "Mount") (He.ga K "NoMount") rTo) := ⟨_, _, MWorldtold, ok_told FWorldtold cW cT cM xM mK, bWorldtold⟩
  have qPeers : MX P w K mg base 2 (He.ga K "World") "peers" ["self", "number"] (spWM K (He.ga K "World") (He.ga K "Table") (He.ga K "Mount") (He.ga K "NoMount") rL0) := ⟨_, _, MWorldpeers, ok_peers FWorldpeers cW cT cM xM, bWorldpeers⟩
  have qFoll : MX P w K mg base 2 (He.ga K "World") "followed" ["self", "number"] (spWM K (He.ga K "World") (He.ga K "Table") (He.ga K "Mount") (He.ga K "NoMount") rLe) := ⟨_, _, MWorldfollowed, ok_followed FWorldfollowed cW cT cM xM, bWorldfollowed⟩
  have qRec : MX P w K mg base 2 (He.ga K "World") "receivers" ["self", "number"] (spWM K (He.ga K "World") (He.ga K "Table") (He.ga K "Mount") (He.ga K "NoMount") rL0) := ⟨_, _, MWorldreceivers, ok_receivers FWorldreceivers cW cT cM xM mRc, bWorldreceivers⟩
  have qPath : MX P w K mg base 3 (He.ga K "World") "path_of" ["self", "number", "node"] (spWO2 K (He.ga K "World") (He.ga K "Table") (He.ga K "Mount") (He.ga K "NoMount")) := ⟨_, _, MWorldpath_of, ok_path_of FWorldpath_of cW cPt, bWorldpath_of⟩
  have Q : Qs P w K mg base (He.ga K "World") (He.ga K "Table") (He.ga K "Mount") (He.ga K "NoSpace") (He.ga K "NoMount") := ⟨cW, qMounts, qShown, qOwner, qTrusted, qPlain, qWalk, qTold, qPeers, qFoll, qRec, qPath⟩
  have cDg : Cm.Cl P w K mg base CX0 1 "_law_digit" ["_law_state", "_law_base"] spDigit := .of X G (He.eqO_ok (c.fact 22 (f := .glo "_law_digit") rfl)) F_law_digit b_law_digit (ok_digit F_law_digit B)
  have cCe : Cm.Cl P w K mg base CX0 1 "_law_cell_at" ["_law_script", "_law_k"] (Tx.spCell K) := .of X G (He.eqO_ok (c.fact 21 (f := .glo "_law_cell_at") rfl)) F_law_cell_at b_law_cell_at (ok_cell F_law_cell_at B)
  have cLt : Cm.Cl P w K mg base CX0 2 "_law_tree" ["_law_state"] spLT := .of X G (He.eqO_ok (c.fact 23 (f := .glo "_law_tree") rfl)) F_law_tree b_law_tree (ok_lt F_law_tree cDg)
  have cNm : Cm.Cl P w K mg base CX0 2 "_law_named" ["_law_state"] spNd := .of X G (He.eqO_ok (c.fact 26 (f := .glo "_law_named") rfl)) F_law_named b_law_named (ok_nd F_law_named B cDg)
  have gW : ∀ k, LmB.GOk P w K mg base k (k + 1) "_law_word" (TTw (fun i => He.ga K (nm4 i))) := fun k => gok_word F_law_word b_law_word (He.glo_ok X G (c.fact 24 (f := .glo "_law_word") rfl)) B (f_E4 X G c e)
  have oDo := ok_doors (P := P) (w := w) (base := base) (C := (fun i => He.ga K (nm4 i))) lk2 hc2 Q (gW 4) LD
  have cDo : Cm.Cl P w K mg base CX0 6 "_law_doors" ["_law_world", "_law_odd"] (spDoors (tabs K) (He.ga K "World") (He.ga K "Table") (He.ga K "Mount")) := .of X G (He.eqO_ok (c.fact 25 (f := .glo "_law_doors") rfl)) F_law_doors b_law_doors oDo
  have D : Lw P w K mg base (tabs K) (He.ga K "World") (He.ga K "Table") (He.ga K "Mount") (He.ga K "Tree") (fun i => He.ga K (nm4 i)) := ⟨B, cCe, cDg, cLt, cNm, cDo, gW 9, ⟨_, _, KTree, ok_init FTree__init__ B (f_Tr X G c) (f_No X G c) cNo, bTree__init__⟩, (He.glo_ok X G (c.fact 28 (f := .glo "Tree") rfl)), ⟨_, _, ds, its, KWorld, oWI, bWI, kWI⟩, (He.glo_ok X G (c.fact 31 (f := .glo "World") rfl)), Q, mSh, mPs, mSp⟩
  exact ok_law lk1 hc1 hmax hmin D LL
end
end Hx
set_option Elab.async false
set_option linter.all false
set_option maxRecDepth 100000
set_option maxHeartbeats 0
namespace Hx
open PySem PySem.Spec PyProof.Rows L2 Tx
theorem runT (w : World) : HandSHeadRun.RunEq R (PySem.W.view R.prog [44]) hk ob 60000 loose (w.withFollow "special-get-raises" true) := by
  intro os
  kernel_rfl
theorem run (w : World) : HandSHeadRun.RunEq R (PySem.W.view R.prog [44]) hk ob 60000 loose w :=
  PySem.W.byRow2 "special-get-raises" (P := fun w => HandSHeadRun.RunEq R (PySem.W.view R.prog [44]) hk ob 60000 loose w) runF runT w
theorem hsp {K : PySem.W.Frag} (H : Hp) (a : Addr) (ns : List Int) (hl : ns.length ≤ 63) (hH : ∀ p ∈ cps K, H p.2 = some (.tbl #[])) (hS : SqL K H a (ns.map V.int)) : spLaw K (tabs K) [.ref a] H (fun v _ => v = .bl true) fun _ _ _ => False :=
  ⟨a, ns, rfl, hS, hl, fun p hp => by
    rcases List.mem_cons.mp hp with z | z
    · rw [z]
      exact LamX.TabS.nil (hH _ (.head _))
    · rw [List.mem_singleton.mp z]
      exact LamX.TabS.nil (hH _ (.tail _ (.head _))), fun _ => rfl⟩
end Hx
open PySem PySem.W PySem.Calls PyProof.Rows
set_option maxRecDepth 100000 in
set_option maxHeartbeats 0 in
theorem PySem.Challenge.cw_spreadmounts_k13_worlds_begun_and_refuse_holds : PySem.Challenge.rw_spreadmounts_k13_worlds_begun_and_refuse.Holds := by
  w_on; o_law
  refine HandSHeadRun.head_any (r := OpenLaw.row PySem.Challenge.rw_spreadmounts_k13_worlds_begun_and_refuse) (q := view (OpenLaw.row PySem.Challenge.rw_spreadmounts_k13_worlds_begun_and_refuse).prog [44]) (H := Hx.hk) (ob := Hx.ob) (M := 60000) (loose := Hx.loose) (d := HandSHeadRun.topDef (OpenLaw.row PySem.Challenge.rw_spreadmounts_k13_worlds_begun_and_refuse).prog 44) (kwd := []) Hx.ob_eq
    (by kernel_rfl) (fun s => by kernel_rfl) Hx.run (by kernel_rfl) (by kernel_rfl) (by kernel_rfl) (by rfl) (by first | assumption | decide +kernel) (by decide +kernel) ⟨rfl, rfl, rfl, rfl, rfl, by decide +kernel⟩ ?hw ?hc
  case hw => w_witness2
  case hc =>
    refine Hk.walk_ofTE (l := PySem.Challenge.rw_spreadmounts_k13_worlds_begun_and_refuse) (n := 63) (k := 15) (x := "_law_script") (CX := L2.CX0) rfl (by decide) (by kernel_rfl) ⟨rfl, by decide, by decide⟩ ?F (fun _ _ _ _ z => z)
    intro w mg fa h Y G hmg0
    obtain ⟨K, KX, c, tb⟩ := Y
    have hmg : mg ("law" : PySem.Str) = some (.ref fa) := by
      have e : (HandSHeadRun.topDef (OpenLaw.row PySem.Challenge.rw_spreadmounts_k13_worlds_begun_and_refuse).prog 44).name = ("law" : PySem.Str) := by kernel_rfl
      rw [← e]
      exact hmg0
    obtain ⟨fd, hb, hF⟩ := Hx.facts (P := (PySem.Challenge.rw_spreadmounts_k13_worlds_begun_and_refuse).prog) (w := w) KX G hmg c
    have t1 := tb "_law_doors" (.head _)
    have t2 := tb "law" (.tail _ (.head _))
    have two : ∀ {φ : Addr × Addr → Prop}, φ (Hk.tC K "_law_doors", Hk.tP K "_law_doors") → φ (Hk.tC K "law", Hk.tP K "law") → ∀ p ∈ Hx.cps K, φ p := fun h1 h2 p hp => by
      rcases List.mem_cons.mp hp with z | z
      · rw [z]
        exact h1
      · rw [List.mem_singleton.mp z]
        exact h2
    exact ⟨K, Hx.cps K, fd, Tx.spLaw K (Hx.tabs K), KX, two t1.tab t2.tab, two t1.no t2.no, two (PySem.W.codeHd_of_K KX t1.hd) (PySem.W.codeHd_of_K KX t2.hd), hb, fun H a ns hl hH hS => Hx.hsp H a ns hl hH hS, hF⟩
