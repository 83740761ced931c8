import PyProof.Rows.All
import Wide.All
import OpenK.AllK
import Wide.FinOn
import HandS.ForMost
import HandS.Exc
import HandS.DictComp
import KE.GoesComp
import KE.GoesRaise
import KE.KDictDisplayH
import HandS.TryOnly
import HandS.TryMany
import HandS.ExcOwn
import HandS.WordsExc
import HandS.IsInst
import HandS.Wide
import HandS.Codes
import HandS.Evl
import HandS.Walk
import HandS.EndBits
import HandS.StrMore
import HandS.ExcIs
import HandS.More
import HandS.Zip
import HandS.Replace
import HandS.ReplaceLit
import HandS.ReplaceList
import HandS.RaiseMore
import PyProof.ZipIter
import HandS.ExcValue
import HandS.ExcInit
import HandS.Defaults
import PyProof.Rows.StrCase
import PyProof.StrLawsReplace
import HandS.TupAny
import KE.KDictList
import PyProof.EqKinds
import PyProof.FactsAll.dict_1
import HandS.Deep
import HandS.ExcField
import KE.KExcIs
import HandS.Lambda
import HandS.Nested
import PyProof.ReprRoads
import PyProof.ReprLen
import HandS.EndTab
import HandS.HeadHook4
import HandS.HeadNt
import HandS.HeadEnd
import HandS.Head2
import PySem.Challenge.RW_spreadmounts_k89_deeds_as_texts
set_option autoImplicit true
set_option Elab.async false
set_option linter.all false
set_option maxRecDepth 100000
set_option maxHeartbeats 4000000
/-! A dict comprehension whose values may raise out of a call. -/
namespace DcE
open PySem PySem.Spec PyProof.Rows L2
section
variable {X : Cx} {pins : List (Addr × Obj)} {σ : L2.St} {H : Hp} {s s' : Shared} {E : XK} {u : Value}
theorem flies (I : Inv X pins σ H s) (c : L2.CX X.prog X.w X.stack H s E u s') :
    ∃ (a : Addr) (B : Heap) (sI : Shared) (pn : List (Addr × Obj)) (σ' : L2.St) (H' : Hp) (cls : Value) (d : Option Addr), u = .ref a ∧ Inv X pn σ' H' sI ∧ (∀ b o, sI.heap.get? b = some o → b ∉ frs X.stack → B.get? b = some o) ∧
      sI.heap.UpToSlots s'.heap ∧ HandSPX.FlyingZ B X.stack a (Zc cls d) s'.heap ∧ H' a = none ∧ s'.os = sI.os ∧ AllBare s'.gens ∧ E cls d H' := by
  obtain ⟨a0, B0, H0, cls0, d0, e0, ⟨_, _, _, oe0, vs0, T0, oT0, ts0, he0, _, hd0, h10, _, _, hT0, hdT0, h30⟩, _⟩ := id c
  obtain ⟨a, B, sI, pn, σ', H', cls, d, e, I', nb, up, sky, na, os, ag, w⟩ := XE.of_call (W := fun cls d _ H => E cls d H) I (fun _ _ _ h => h) c
  have ea : a0 = a := by
    rw [e] at e0
    injection e0 with q
    exact q.symm
  rw [ea] at he0
  have fl : HandSPX.FlyingZ B X.stack a (Zc cls d) s'.heap := by
    rcases sky with ⟨_, _, _, oe, vs, he, _, hd, h1⟩ | fl | ⟨_, _, _, oe, vs, T, oT, ts, he, _, hd, h1, _, _, hT, hdT, h3⟩
    · exfalso
      rw [he0] at he
      cases he
      rw [hd0] at hd
      cases hd
      rw [h10] at h1
      cases h1
    · exact fl
    · exfalso
      rw [he0] at he
      cases he
      rw [hd0] at hd
      cases hd
      rw [h10] at h1
      cases h1
      rw [hT0] at hT
      cases hT
      rw [hdT0] at hdT
      cases hdT
      rw [h30] at h3
      cases h3
  exact ⟨a, B, sI, pn, σ', H', cls, d, e, I', nb, up, fl, na, os, ag, w⟩
theorem but_one (h : Heap) (C : Addr) : ∃ G : Heap, (∀ b, b ≠ C → G.get? b = h.get? b) ∧ G.get? C = none := by
  obtain ⟨G, g1, g2⟩ := restrict h fun b => decide (b ≠ C)
  exact ⟨G, fun b hb => g1 b (decide_eq_true hb), g2 C (by simp)⟩
/-- out of the block: noted, the block let go, on in the def's own frame -/
theorem out {σ8 : L2.St} {H3 H8 : Hp} {s3 s8 : Shared} {scope : Scope} {ce : Env} {fp : List Addr} {use : Option (Value → Sem Unit)} {Qf : Value → Shared → Prop} {D : Value} {pn : List (Addr × Obj)} {xe : Value → Shared → Prop}
    (tk : Takes X (fun cls d _ H => E cls d H)) (hs : X.stack = X.env :: X.outer) (hf : X.env.frame = some X.env.locals) (hcf : ce.frame = X.env.frame) (cL : ce.locals = s3.heap.objs.size) (I3 : Inv X pins σ H3 s3) (f3 : ∀ b ∈ fp, FpOk X pins H3 b)
    (I8 : Inv ((X.blk s3 H3 scope ce fp).wish xe) pn σ8 H8 s8) (c : L2.CX X.prog X.w X.stack H8 s8 E u s') :
    notedBy (model X.prog X.w) X.A ce (fun e s2 => compEnds (model X.prog X.w) X.A X.xe use Qf D ce (.error e) s2) u s' := by
  obtain ⟨a, B, sI, pn', σ', H', cls, d, rfl, I, nb, up, fl, na, os, ag, hE⟩ := flies I8 c
  obtain ⟨m, hn, _⟩ := I.loc
  have hn : sI.heap.Ns ce.locals m := hn
  have fl : HandSPX.FlyingZ B X.stack a (Zc cls d) s'.heap := fl
  have nb : ∀ b o, sI.heap.get? b = some o → b ∉ frs X.stack → B.get? b = some o := nb
  have hfr : X.A.frames = some (X.env :: X.outer) := by rw [I3.ok.frames, hs]
  show wpAny _ _ (noteFrame (.ref a) ce) _ _ s'
  rw [noteFrame_env _ hcf]
  refine HandSPX.looks_onZ Zc.steady hfr hf (by rw [← hs]; exact fl) fun h1 hh up1 => ?_
  have hn1 : h1.Ns ce.locals m := Heap.Ns.upToSlots (Heap.Ns.upToSlots hn up) up1
  suffices q : CompFails (model X.prog X.w) X.A X.xe ce (.ref a) { s' with heap := h1 } by
    cases use <;> exact q
  refine ⟨m, hn1, fun h2 m2 hn2 hs2 => ?_⟩
  obtain ⟨b1, b0, f1, oe, vs, T, oT, ts, he, hz, hd, hv1, hnT, hTe, hT, hdT, h3⟩ := hh
  obtain ⟨B2, g1, g2⟩ := but_one B ce.locals
  obtain ⟨G2, k1, k2⟩ := but_one sI.heap ce.locals
  obtain ⟨oL, es, ep, hoL, hdL, _⟩ := hn1
  have naC : a ≠ ce.locals := fun z => by
    rw [z, hoL] at he
    cases he
    rw [hdL] at hd
    cases hd
  have nTC : T ≠ ce.locals := fun z => by
    rw [z, hoL] at hT
    cases hT
    rw [hdL] at hdT
    cases hdT
  have toB : ∀ b o, B2.get? b = some o → b ≠ ce.locals ∧ B.get? b = some o := fun b o e => by
    have nbC : b ≠ ce.locals := fun z => by
      rw [z, g2] at e
      cases e
    exact ⟨nbC, (g1 b nbC).symm.trans e⟩
  have noB : ∀ b, B.get? b = none → B2.get? b = none := fun b e => by
    cases q : B2.get? b with
    | none => rfl
    | some o =>
      rw [(toB b o q).2] at e
      cases e
  have st2 : B2.StaysIn h2 := fun b o e => (hs2.2 b (toB b o e).1).trans (b1 b o (toB b o e).2)
  have ff2 : h2.FunFrames B2 (X.env :: X.outer) := funFrames_none (Heap.FunFrames.sameBut hs2 hn2 f1) fun L hL => by
    obtain ⟨hb, _⟩ := f1.mem hL
    exact noB L hb
  have tr2 : HandSPX.TracedZ h2 B2 a (Zc cls d) (rawInt X.env.locals) := ⟨oe, vs, T, oT, ts, (hs2.2 a naC).trans he, hz, hd, hv1, noB T hnT, hTe, (hs2.2 T nTC).trans hT, hdT, h3⟩
  unfold PySem.passOn
  refine wpAny_bind (wpAny_field ((hs2.2 a naC).trans he) hd hv1 ?_)
  rw [if_neg (show ¬ ((Value.ref T == Value.none) = true) from by simp)]
  rw [hcf, hf]
  refine wpAny_bind (HandSPX.setFlight_anyZ st2 ff2 tr2 fun h4 t1 t2 t3 t4 => wpAny_throw (tk _ _ ?_))
  have I3' : Inv X pins σ H' { sI with heap := G2 } := by
    have un : Un (frs X.stack) fp H3 H' s3.heap sI.heap := I.base
    have nC : ∀ b o, s3.heap.get? b = some o → b ≠ ce.locals := fun b o e z => by
      have q := Heap.lt_size e
      rw [z, cL] at q
      exact Nat.lt_irrefl _ q
    refine I3.call' (ch := fp) I.os ⟨fun b o e n x y => (k1 b (nC b o e)).trans (un.keep b o e n x y), fun b o e n x y => ?_, un.free, fun b o e y => ?_, un.tups, un.frzs, un.tbls⟩ (fun b o e => ?_) I.bare fun b hb => ⟨(f3 b hb).2.2.2.1, (f3 b hb).2.1, (f3 b hb).2.2.2.2.1, (f3 b hb).2.2.2.2.2⟩
    · obtain ⟨sl, q⟩ := un.slot b o e n x y
      exact ⟨sl, (k1 b (nC b o e)).trans q⟩
    · obtain ⟨o', q⟩ := un.there b o e y
      exact ⟨o', (k1 b (nC b o e)).trans q⟩
    · have hfreeC : H' ce.locals = none := I.free
      refine (I.hok b o e).stay (fun c u hc r => (k1 c fun z => ?_).trans r) (fun _ r => r) fun _ _ r => r
      rcases hc with hc | hc
      · rw [← hc, z, hfreeC] at e
        cases e
      · rw [z, hfreeC] at hc
        cases hc
  refine ⟨a, B2, { sI with heap := G2 }, pins, σ, H', cls, d, rfl, I3', fun b o e hb => ?_, fun b o e hnf => ?_, .inr (.inr ⟨t1, noB a b0, by rw [hs]; exact t2, t3⟩), na, os, ag, hE⟩
  · have nbC : b ≠ ce.locals := fun z => by
      have e : G2.get? b = some o := e
      rw [z, k2] at e
      cases e
    exact (g1 b nbC).trans (nb b o ((k1 b nbC).symm.trans e) hb)
  · have nbC : b ≠ ce.locals := fun z => by
      have e : G2.get? b = some o := e
      rw [z, k2] at e
      cases e
    obtain ⟨s1, e1⟩ := up b o ((k1 b nbC).symm.trans e) hnf
    obtain ⟨s2, e2⟩ := up1 b _ e1 hnf
    have e3 : h2.get? b = some { o with slots := s2 } := (hs2.2 b nbC).trans e2
    obtain ⟨s3, e4⟩ := t4 b { o with slots := s2 } e3 hnf
    exact ⟨s3, e4⟩
/-- {k: v for target in iter}, v a call that may raise: D the new dict -/
def tDcE (wi : TI) (g : TG) (tk tv : TE) (vs : List Nat) : TE := fun σ H Q => wi σ H fun J H1 => ∀ D, H1 D = none → ∃ W : Nat → Nat → Hp → Prop, (∃ m, W 0 m (upd H1 D (.dK []))) ∧ ∀ i m H, W i m H →
  (J.stop i H ∧ Q (.ref D) H) ∨ (J.go i H ∧ ∃ Nx : Hp → Prop, (∀ H', Nx H' → ∃ m', m' < m ∧ W (i + 1) m' H') ∧ ∀ x H', J.yld i H x H' → g x (wipe σ vs) H' fun σ2 H2 => wipe σ2 vs = wipe σ vs ∧
    tk σ2 H2 fun y H4 => tv σ2 H4 fun z H5 => ∃ kvs k, y = kV k ∧ H5 D = some (.dK kvs) ∧ kvs.length < sizeLine ∧ Nx (upd H5 D (.dK (putK kvs k z))))
theorem pe_dcE {kx vx tg iter : Expr} {scope : Scope} {own : List (Str × Nat)} {pos : Pos} {wi : TI} {g : TG} {tk tv : TE} (hc : X.calm = true) (hN : X.N.Nodup) (tk0 : Takes X (fun cls d _ H => E cls d H)) (hst : X.stack = X.env :: X.outer) (hf : X.env.frame = some X.env.locals)
    (hi : PI X tg iter wi) (ok : BlkOk X.N X.env.scope scope own) (hg : ∀ (s : Shared) (H : Hp) (C : Addr) (cl : List (Str × Addr)) (fp : List Addr), PG (X.blk s H scope (compEnvC scope cl C X.env) fp) tg g)
    (hk : ∀ (s : Shared) (H : Hp) (C : Addr) (cl : List (Str × Addr)) (fp : List Addr), PE (X.blk s H scope (compEnvC scope cl C X.env) fp) kx tk)
    (he : ∀ (s : Shared) (H : Hp) (C : Addr) (cl : List (Str × Addr)) (fp : List Addr) (xe : Value → Shared → Prop), Passes (L2.CX X.prog X.w) ((X.blk s H scope (compEnvC scope cl C X.env) fp).wish xe) E → PE ((X.blk s H scope (compEnvC scope cl C X.env) fp).wish xe) vx tv)
    (hsf : ∀ x, foldedSetIterable iter X.env x = pure x := by intro _; rfl) :
    PE X (.DictComp kx vx [⟨tg, iter, [], 0⟩] scope pos) (tDcE wi g tk tv (own.map (·.2))) := by
  refine ⟨fun pins s σ H Q I h => ?_⟩
  rw [arm_eval_DictComp]
  have hfree : ∀ y ∈ scope.names, y.2 = .free → ∃ c, X.env.cells.lookup y.1 = some c := fun y hy e =>
    (ok.free y hy e).elim (fun k => I.ok.has _ (.inl k)) fun k => I.ok.has _ (.inr k)
  refine comprehension_at (use := none) rfl hsf (closure_ok hfree) ok.kind (fun y hy e => by rw [ok.uniq y hy, e]) (thn (hi.run pins s σ H _ I h) fun xv s1 hx => thn hx fun itv s2 h2 => ?_)
  obtain ⟨it, fp, tn, J, H2, rfl, I2, T, st2, f2, q⟩ := h2
  refine wpAny_newObj_type (newEnv_comp ?_)
  obtain ⟨W, ⟨m0, w0⟩, turn⟩ := q s2.heap.objs.size (I2.hok.fresh (Nat.le_refl _))
  have I3 : Inv X pins σ (upd H2 s2.heap.objs.size (.dK [])) { s2 with heap := s2.heap.push { cls := .type "dict", data := .dict #[] } } :=
    I2.laid (t' := s2.toks) (fun b o e => Heap.get?_push_of_some _ e) (Nat.le_refl _) (dk_empty s2.heap I2.big)
  have small : ∀ b ∈ fp, b < s2.heap.objs.size := fun b hb => Heap.lt_size (T.obj _ _ st2 b hb).choose_spec.1
  have nD : ∀ b ∈ fp, b ≠ s2.heap.objs.size := fun b hb => Nat.ne_of_lt (small b hb)
  have f3 : ∀ b ∈ fp, FpOk X pins (upd H2 s2.heap.objs.size (.dK [])) b := fun b hb => ⟨by rw [upd_ne (nD b hb)]; exact (f2 b hb).1, (f2 b hb).2⟩
  have st3 : tn 0 (s2.heap.push { cls := .type "dict", data := .dict #[] }) := T.keep _ _ _ st2 fun b _ o e => Heap.get?_push_of_some _ e
  obtain ⟨D, hD⟩ : ∃ D, D = s2.heap.objs.size := ⟨_, rfl⟩
  obtain ⟨s3, hs3⟩ : ∃ s3 : Shared, s3 = { s2 with heap := s2.heap.push { cls := .type "dict", data := .dict #[] } } := ⟨_, rfl⟩
  obtain ⟨H3, hH3⟩ : ∃ H3 : Hp, H3 = upd H2 s2.heap.objs.size (.dK []) := ⟨_, rfl⟩
  have small3 : ∀ b ∈ fp, b < s3.heap.objs.size := fun b hb => by
    rw [hs3]
    exact Nat.lt_of_lt_of_le (small b hb) (by rw [Heap.size_push]; exact Nat.le_succ _)
  have st3 : tn 0 s3.heap := by rw [hs3]; exact st3
  rw [← hD] at turn
  rw [← hH3, ← hs3] at I3
  rw [← hH3] at f3 w0
  have I4 := block_start I3 ok hN fun b hb => ⟨f3 b hb, small3 b hb⟩
  obtain ⟨ce, hce⟩ : ∃ ce : Env, ce = compEnvC scope (cellsFrom (s3.heap.objs.size + 1) scope.names (cloFrom X.env.cells scope.names [])) s3.heap.objs.size X.env := ⟨_, rfl⟩
  obtain ⟨s4, hs4⟩ : ∃ s4 : Shared, s4 = { s3 with heap := pushCells (s3.heap.push { cls := .type "dict", data := .dict #[] }) scope.names } := ⟨_, rfl⟩
  have st4 : tn 0 s4.heap := T.keep _ _ _ st3 fun b _ o e => by rw [hs4]; exact pushCells_keeps _ _ _ _ (Heap.get?_push_of_some _ e)
  have pg := hg s3 H3 s3.heap.objs.size (cellsFrom (s3.heap.objs.size + 1) scope.names (cloFrom X.env.cells scope.names [])) fp
  have pk := hk s3 H3 s3.heap.objs.size (cellsFrom (s3.heap.objs.size + 1) scope.names (cloFrom X.env.cells scope.names [])) fp
  have pv' := he s3 H3 s3.heap.objs.size (cellsFrom (s3.heap.objs.size + 1) scope.names (cloFrom X.env.cells scope.names [])) fp
  have cL : ce.locals = s3.heap.objs.size := by rw [hce]; rfl
  have hcf : ce.frame = X.env.frame := by rw [hce]; rfl
  rw [← hce] at I4 pg pk pv'
  rw [← hs4] at I4
  rw [← hs3, ← hD]
  show codeAny _ _ (.compStart (.DictComp kx vx [⟨tg, iter, [], 0⟩] scope pos) 0 (.ref it) (.ref D) (compEnvC scope (cellsFrom (s3.heap.objs.size + 1) scope.names (cloFrom X.env.cells scope.names [])) s3.heap.objs.size X.env))
    (compEnds (model X.prog X.w) X.A X.xe none (EP X pins σ Q) (.ref D) (compEnvC scope (cellsFrom (s3.heap.objs.size + 1) scope.names (cloFrom X.env.cells scope.names [])) s3.heap.objs.size X.env)) { s3 with heap := pushCells (s3.heap.push { cls := .type "dict", data := .dict #[] }) scope.names }
  rw [← hce, ← hs4]
  have stat : ∀ {σ' : L2.St} {H' : Hp} {s' : Shared}, Inv (X.blk s3 H3 scope ce fp) [] σ' H' s' → (∀ b ∈ fp, H' b = none) → ∀ b ∈ fp, FpOk (X.blk s3 H3 scope ce fp) [] H' b := fun {σ' H' s'} I' hn b hb =>
    ⟨hn b hb, (I'.ok.exf b hb).1, I'.ok.exfs b hb, .inl hb, fun x c e => (I'.ok.exf b hb).2 x c e, fun p hp => absurd (show p ∈ ([] : List (Addr × Obj)) ++ [] from hp) (by simp)⟩
  have loop : codeAny (model X.prog X.w) X.A (.compLoop (.DictComp kx vx [⟨tg, iter, [], 0⟩] scope pos) 0 (.ref it) (.ref D) ce) (compEnds (model X.prog X.w) X.A X.xe none (EP X pins σ Q) (.ref D) ce) s4 := by
    refine compLoop_anyD (fun n s' => ∃ i H', Inv (X.blk s3 H3 scope ce fp) [] (wipe σ (own.map (·.2))) H' s' ∧ tn i s'.heap ∧ (∀ b ∈ fp, H' b = none) ∧ W i n H') ?_ m0 ⟨0, H3, I4, st4, fun b hb => (f3 b hb).1, w0⟩
    rintro n s5 ⟨i, H5, I5, st5, n5, w5⟩
    rcases turn i n H5 w5 with ⟨stop, qq⟩ | ⟨go, Nx, hNx, step⟩
    · refine thnF (T.done (X.blk s3 H3 scope ce fp) rfl rfl rfl hc i [] s5 _ H5 (fun _ _ => False) I5 (stat I5 n5) st5 stop) fun r s6 ⟨hr, I6⟩ => ?_
      subst hr
      have I7 : Inv X pins σ H5 s6 := I3.call' (ch := fp) I6.os I6.base I6.hok I6.bare fun b hb => ⟨(f3 b hb).2.2.2.1, (f3 b hb).2.1, (f3 b hb).2.2.2.2.1, (f3 b hb).2.2.2.2.2⟩
      have nC : H5 s3.heap.objs.size = none := by
        have z : H5 ce.locals = none := I6.free
        rw [cL] at z
        exact z
      obtain ⟨m, hn, _⟩ := I6.loc
      have hn : s6.heap.Ns ce.locals m := hn
      obtain ⟨g0, g1, g2, g3, g4, g5⟩ := I3.fpOk (Nat.le_refl _) nC
      exact ⟨m, hn, fun h' sb => ⟨.ref D, H5, I7.turned (t' := s6.toks) (fun b o hb e => (sb.2 b (by rw [cL]; exact hb)).trans e) g0 g1 g3 g4 g5, rfl, qq⟩⟩
    · refine thnF (T.item (X.blk s3 H3 scope ce fp) rfl rfl rfl hc i [] s5 _ H5 (fun _ _ => False) I5 (stat I5 n5) st5 go) fun r s6 ⟨u, hr, h6⟩ => ?_
      subst hr
      refine thnF h6 fun _ s7 ⟨x, H7, I7, r7, y7, st7, n7⟩ => ?_
      have I7' := I7.pinned (stat I7 n7) (T.obj _ _ st7)
      refine thnF (pg.run _ s7 _ H7 x u _ I7' r7 (step x H7 y7)) fun _ s8 ⟨σ8, H8, I8, hw8, q8⟩ => ?_
      refine wpAny_pure ?_
      simp only [if_true]
      refine thnF (pk.run _ s8 σ8 H8 _ I8 q8) fun z s10 ⟨yk, H10, I10, r10, q10⟩ => ?_
      have run := (pv' (notedBy (model X.prog X.w) X.A ce fun e s2 => compEnds (model X.prog X.w) X.A X.xe none (EP X pins σ Q) (.ref D) ce (.error e) s2) (fun pn σ' H' sx e sy Ix c => out tk0 hst hf hcf cL I3 f3 Ix c)).run _ s10 σ8 H10 _ (I10.wish _) q10
      refine wpAny_mono run (fun z2 s11 ⟨yv, H11, I11, r11, kvs, k, ek, hD11, hz11, nx⟩ => ?_) fun _ _ h => h
      subst ek
      refine d_dictSet (X := X.blk s3 H3 scope ce fp) I11.unwish hD11 hz11 r10 r11 fun s12 I12 => ?_
      obtain ⟨m', hm, w'⟩ := hNx _ nx
      have pin' : ∀ b ∈ fp, ∀ o, s7.heap.get? b = some o → s12.heap.get? b = some o ∧ upd H11 D (.dK (putK kvs k yv)) b = none := fun b hb o e =>
        let z := I12.pin (b, o) (List.mem_append_right _ (List.mem_append_right _ (mem_pinsAt hb e)))
        ⟨z.1, z.2.1⟩
      have hl : (wipe σ (own.map (·.2))).length = σ8.length := by rw [← hw8, wipe_length]
      refine ⟨m', hm, i + 1, _, (I12.unpinned (pins := [])).weak hl (fun j v e => ?_), T.keep _ _ _ st7 fun b hb o e => (pin' b hb o e).1, fun b hb => ?_, w'⟩
      · rw [← hw8] at e
        exact (wipe_some e).1
      · obtain ⟨o, e, _⟩ := T.obj _ _ st7 b hb
        exact (pin' b hb o e).2
  exact codeAny_compStart_dict loop (T.self X.A 0 _ _ _ st4 loop)
/-- over a list that stays -/
theorem dce_list {K : PySem.W.Frag} {a : Addr} {xs : List V} {g : TG} {tk tv : TE} {vs : List Nat} {σ : L2.St} {H1 : Hp} {D : Addr} {Qd : Hp → Prop} (Pv : Nat → Hp → Prop) (h0 : Pv 0 (upd H1 D (.dK []))) (hl : ∀ i H, i ≤ xs.length → Pv i H → SqL K H a xs)
    (hs : ∀ i x H, xs[i]? = some x → Pv i H → g x (wipe σ vs) H fun σ2 H2 => wipe σ2 vs = wipe σ vs ∧ tk σ2 H2 fun y H4 => tv σ2 H4 fun z H5 => ∃ kvs k, y = kV k ∧ H5 D = some (.dK kvs) ∧ kvs.length < sizeLine ∧ Pv (i + 1) (upd H5 D (.dK (putK kvs k z)))) (hd : ∀ H, Pv xs.length H → Qd H) :
    ∃ W : Nat → Nat → Hp → Prop, (∃ m, W 0 m (upd H1 D (.dK []))) ∧ ∀ i m H, W i m H → ((Itl K a).stop i H ∧ Qd H) ∨ ((Itl K a).go i H ∧ ∃ Nx : Hp → Prop, (∀ H', Nx H' → ∃ m', m' < m ∧ W (i + 1) m' H') ∧
      ∀ x H', (Itl K a).yld i H x H' → g x (wipe σ vs) H' fun σ2 H2 => wipe σ2 vs = wipe σ vs ∧ tk σ2 H2 fun y H4 => tv σ2 H4 fun z H5 => ∃ kvs k, y = kV k ∧ H5 D = some (.dK kvs) ∧ kvs.length < sizeLine ∧ Nx (upd H5 D (.dK (putK kvs k z)))) := by
  refine ⟨fun i m H => m + i = xs.length ∧ Pv i H, ⟨xs.length, rfl, h0⟩, fun i m H ⟨hm, p⟩ => ?_⟩
  have q := hl i H (by omega) p
  by_cases hi : i < xs.length
  · refine .inr ⟨⟨xs, xs[i], q, List.getElem?_eq_getElem hi⟩, Pv (i + 1), fun H' p' => ⟨m - 1, by omega, by omega, p'⟩, fun x H' ⟨e, y⟩ => ?_⟩
    subst e
    exact hs i x _ (y xs q) p
  · have e : i = xs.length := by omega
    subst e
    exact .inl ⟨⟨xs, q, Nat.le_refl _⟩, hd H p⟩
end
end DcE
set_option autoImplicit true
set_option Elab.async false
set_option linter.all false
set_option maxRecDepth 100000
set_option maxHeartbeats 4000000
namespace DcE
open PySem PySem.Spec PyProof.Rows L2
/-- {k: v}, k a tuple of ints and texts -/
def postT (p : Addr) (Q : VK) : List (V × V) → Hp → Prop := fun ps H2 => H2 p = some (.dT []) ∧ ∃ (b : Addr) (ks : List Key) (y : V), ps = [(.ref b, y)] ∧ H2 b = some (.tup (ks.map kV)) ∧ Q (.ref p) (upd H2 p (.dT [(ks, y)]))
def tDispT (tk tv : TE) : TE := fun σ H Q => ∀ p, H p = none → tPairs [(tk, tv)] σ (upd H p (.dT [])) (postT p Q)
theorem pe_dispT {X : Cx} {k v : Expr} {pos : Pos} {tk tv : TE} (hu : X.A.units + 1 < cLine) (hk : PE X k tk) (hv : PE X v tv) : PE X (.Dict [some k] [v] pos) (tDispT tk tv) := by
  refine ⟨fun pins s σ H Q I q => ?_⟩
  have hn := I.hok.fresh (Nat.le_refl s.heap.objs.size)
  have I1 := I.laid (a := s.heap.objs.size) (o := .dT []) (h' := s.heap.push { cls := .type "dict", data := .dict #[] }) (t' := s.toks) (fun _ _ z => Heap.get?_push_of_some _ z) (Nat.le_refl _) (dt_empty s.heap I.big)
  rw [arm_eval_Dict, zip_pairTrees [some k] [v] X.env pos rfl rfl, dictDisplay_pairs _ (by intro z; cases z) (by show 1 < _; decide)]
  refine wpAny_bind (wpAny_standAt (wpAny_bind (wpAny_subDictH (knd := tupleKind (mixKind X.prog X.w)) (Q := fun d s' => wpAny (model X.prog X.w) X.A (pure (Value.ref d)) (EP X pins σ Q) X.xe s') ?_ (by show 1 ≤ 15; decide) (thn ((pps_cons hk hv pps_nil).run pins _ σ _ _ I1 (q _ hn)) fun ws s2 h2 => ?_))))
  · exact (show X.A.units < cLine by omega)
  · obtain ⟨ps, H2, I2, rel, e, b, ks, y, rfl, eb, q2⟩ := h2
    cases rel with
    | cons r1 r2 =>
      rename_i vk ws'
      cases r2
      obtain ⟨u1, u2⟩ := vk
      obtain ⟨rk, rv⟩ := r1
      have ek : u1 = Value.ref b := rk
      subst ek
      obtain ⟨z, hd, xs, rel, dd⟩ := dt_of I2.hok e
      cases rel
      refine ⟨[(ks, b, u2)], ⟨rfl, rfl, key_of I2.hok eb, True.intro⟩, dd, fun h' tk dd' hs => wpAny_pure ⟨.ref s.heap.objs.size, _, ?_, rfl, q2⟩⟩
      obtain ⟨o, es, ep, ho, h2, h3, h4, _, h5⟩ := dd'
      refine d_write I2 (by rw [e]; exact True.intro) hs ⟨o, ho⟩ ⟨by show 1 ≤ sizeLine; decide, hd, [(ks, b, u2)], .cons ⟨rfl, ?_, rv⟩ .nil, o, es, ep, ho, h2, h3, h4, h5⟩
      rw [upd_ne (ne_of eb e (fun z => nomatch z))]
      exact eb
end DcE
set_option autoImplicit true
set_option Elab.async false
set_option linter.all false
set_option maxRecDepth 100000
set_option maxHeartbeats 4000000
namespace Cm
open PySem PySem.Spec PyProof.Rows L2
/-- all but l is as it was -/
def But (l : Addr) (H H' : Hp) : Prop := ∀ b o, b ≠ l → H b = some o → H' b = some o
theorem But.refl (l : Addr) (H : Hp) : But l H H := fun _ _ _ h => h
theorem But.trans {l : Addr} {H H1 H2 : Hp} (a : But l H H1) (b : But l H1 H2) : But l H H2 := fun c o n h => b c o n (a c o n h)
theorem But.upd {l : Addr} {H : Hp} {o : HO} : But l H (upd H l o) := fun b u n h => by rw [upd_ne n]; exact h
theorem But.new {l p : Addr} {H : Hp} {o : HO} (h : H p = none) : But l H (L2.upd H p o) := fun b u n e => by rw [upd_ne (ne_of_none e h)]; exact e
theorem mod_nat {x b : Int} (h : 0 < b) : ∃ d : Nat, (d : Int) < b ∧ x % b = (d : Int) := by
  have h1 := Int.emod_nonneg x (show b ≠ 0 by omega)
  have h2 := Int.emod_lt_of_pos x h
  exact ⟨(x % b).toNat, by omega, by omega⟩
theorem same_new {H : Hp} {p : Addr} {o : HO} (h : H p = none) : Same H (upd H p o) := fun b x e => by
  rw [upd_ne (ne_of_none e h)]
  exact e
theorem same_mut {H H' : Hp} {p : Addr} {o : HO} (h : H p = none) (s : Same H H') : Same H (upd H' p o) := fun b x e => by
  rw [upd_ne (ne_of_none e h)]
  exact s b x e
theorem Same.but {H H' : Hp} (l : Addr) (s : Same H H') : But l H H' := fun b o _ h => s b o h
/-! ### statements by what holds ahead and behind -/
def Ho (X : Cx) (st : Stmt) (p q : L2.St → Hp → Prop) : Prop := ∃ t, PS X st t ∧ ∀ (D : Ends) σ H, p σ H → (∀ σ' H', q σ' H' → D.nx σ' H') → t D σ H
def HoR (X : Cx) (sts : List Stmt) (p : L2.St → Hp → Prop) (r : VK) : Prop := ∃ t, PSs X sts t ∧ ∀ (D : Ends) σ H, p σ H → (∀ v H', r v H' → D.rt v H') → t D σ H
theorem HoR.cons {X : Cx} {st : Stmt} {rest : List Stmt} {p q : L2.St → Hp → Prop} {r : VK} (a : Ho X st p q) (b : HoR X rest q r) : HoR X (st :: rest) p r := by
  obtain ⟨t, ht, h1⟩ := a
  obtain ⟨u, hu, h2⟩ := b
  exact ⟨_, pss_cons ht hu, fun D σ H hp hr => h1 _ σ H hp fun σ' H' hq => h2 D σ' H' hq hr⟩
/-- a def, called by its name -/
structure Cl (P : Program) (w : World) (K : PySem.W.Frag) (mg : Str → Option Value) (base : Heap) (CX : CXT) (k : Nat) (x : Str) (ps : List Str) (sp : Sp) : Prop where
  ex : ∃ f fd, FnOk P w K mg base CX k f fd ps sp ∧ mg x = some (.ref f) ∧ PySem.W.keepIn K (.ref f) = true ∧ Binds K fd ps []
section
variable {X : Cx} {CX : CXT} {k j : Nat} {x : Str} {ps : List Str} {sp : Sp} {e : Expr} {es : List Expr} {t : TA} {p pos : Pos} {E : XK}
theorem pe_cl (c : Cl X.prog X.w X.K X.mg X.base CX k x ps sp) (hr : Room j X.A) (hk : k ≤ j) (hg : Gl X x) (hx : Passes CX X E) (ha : PA X (e :: es) t)
    (hdb : (x == ("__debug__" : Str)) = false := by decide) (he : starEach (e :: es) X.env = (false, eval e X.env) :: starEach es X.env := by rfl) (hpl : (backTo pos (starEach es X.env)).any (·.1) = false := by rfl) :
    PE X (.Call (.Name x p) (e :: es) [] pos) (tCall sp [] E t) := by
  obtain ⟨f, fd, F, hm, kp, b⟩ := c.ex
  exact pe_call F (hr.mono hk) hg hm kp b .nil hx ha hdb he hpl
theorem pe_cl0 (c : Cl X.prog X.w X.K X.mg X.base CX k x ps sp) (hr : Room j X.A) (hk : k ≤ j) (hg : Gl X x) (hx : Passes CX X E)
    (hdb : (x == ("__debug__" : Str)) = false := by decide) : PE X (.Call (.Name x p) [] [] pos) (tCall sp [] E tNil) := by
  obtain ⟨f, fd, F, hm, kp, b⟩ := c.ex
  exact pe_call0 F (hr.mono hk) hg hm kp b .nil hx hdb
end
/-- xs + ys, lists that are read -/
def rCatS (K : PySem.W.Frag) : R2 := fun x y H Q => ∃ l b xs zs, x = .ref l ∧ y = .ref b ∧ SqL K H l xs ∧ SqL K H b zs ∧ xs.length + zs.length ≤ sizeLine ∧ ∀ p, H p = none → Q (.ref p) (upd H p (.lst (xs ++ zs)))
theorem op_catS {X : Cx} : OpR X (binaryOp .Add) (rCatS X.K) := by
  intro pins s σ H x y v u Q I rx ry h
  obtain ⟨l, b, xs, zs, rfl, rfl, hl, hb, hz, q⟩ := h
  cases rx
  cases ry
  obtain ⟨its, r, ⟨⟨c1, d1, t1, sl1⟩, n1, e1, k1, m1, f1⟩, z1⟩ := I.list hl
  obtain ⟨its2, r2, ⟨⟨c2, d2, t2, sl2⟩, n2, e2, k2, m2, f2⟩, z2⟩ := I.list hb
  dsimp only at k1 m1 f1 k2 m2 f2
  subst k1 m1 f1 k2 m2 f2
  have hl1 := r.length
  have hl2 := r2.length
  refine concat_meets ⟨_, e1, rfl⟩ ⟨_, e2, rfl⟩ noFill_list_add seq_list_add PySem.F.slot_list_add PySem.F.entry_list_add (PySem.F.args_list_add_2 _ _) (list_addW l b its.toArray its2.toArray n1 n2 none none sl1 sl2 (by rw [List.size_toArray, List.size_toArray, ← hl1, ← hl2]; exact hz)) ⟨e1, e2, ?_⟩
  have ea : its.toArray ++ its2.toArray = (its ++ its2).toArray := by simp
  rw [ea]
  exact ⟨.ref _, _, I.lnew (t' := s.toks) (r.append r2) (by rw [List.length_append]; exact hz), rfl, q _ I.fresh⟩
/-- a def of the top -/
structure FnFact (K : PySem.W.Frag) (x : Str) (st : Stmt) : Prop where
  ex : ∃ f fd, PySem.W.nsIn K mainGlobals x = some (some (.ref f)) ∧ Fun K x x st f fd
theorem FnFact.of {K : PySem.W.Frag} {x : Str} {st : Stmt} {f : Addr} {oc : Value} {od an : Option Addr} {sl : Array (Option Value)} {kV dc pm cd ct : Value} (a : PySem.W.nsIn K mainGlobals x = some (some (.ref f)))
    (l : K.lookup f = some ⟨oc, od, .func (PySem.W.fnOf x x (defArgs st) (defBody st) (defScope st) .none kV dc pm an cd ct), sl⟩) (c : PySem.W.codeIn K cd x = true) (k : PySem.W.keepIn K (.ref f) = true) : FnFact K x st :=
  ⟨f, _, a, fun_mk l c k⟩
theorem Cl.of {P : Program} {w : World} {K : PySem.W.Frag} {mg : Str → Option Value} {base : Heap} {CX : CXT} {k : Nat} {x : Str} {st : Stmt} {f : Addr} {fd : FuncData} {ps : List Str} {sp : Sp} {h : Heap} (X : K.In h) (G : h.Ns mainGlobals mg) (a : PySem.W.nsIn K mainGlobals x = some (some (.ref f)))
    (F : Fun K x x st f fd) (b : Binds K fd ps []) (o : FnOk P w K mg base CX k f fd ps sp) : Cl P w K mg base CX k x ps sp := ⟨f, fd, o, PySem.W.mg_of X G a, F.kp, b⟩
/-- the state of the draws -/
def StOk (st : List V) : Prop := (∃ c, st = [.int c]) ∨ ∃ a b c, st = [.int a, .int b, .int c]
/-- _law_digit -/
def spDigit : Sp := fun vs H Q _ => ∃ l st base, vs = [.ref l, .int base] ∧ H l = some (.lst st) ∧ StOk st ∧ 0 < base ∧ base < 1073741824 ∧
  ∀ (d : Nat) st' H', (d : Int) < base → StOk st' → H' l = some (.lst st') → But l H H' → Q (.int d) H'
/-- the state's list, all else as at the entry -/
structure Bs (H : Hp) (l : Addr) (H' : Hp) : Prop where
  st : ∃ st, H' l = some (.lst st) ∧ StOk st
  but : But l H H'
theorem Bs.same {H H1 H2 : Hp} {l : Addr} (b : Bs H l H1) (s : Same H1 H2) : Bs H l H2 := ⟨let ⟨st, h, o⟩ := b.st; ⟨st, s _ _ h, o⟩, b.but.trans (Same.but l s)⟩
theorem Bs.trans {H H1 H2 : Hp} {l : Addr} (a : Bs H l H1) (b : Bs H1 l H2) : Bs H l H2 := ⟨b.st, a.but.trans b.but⟩
end Cm
set_option autoImplicit true
set_option Elab.async false
set_option linter.all false
set_option maxRecDepth 100000
namespace Tx
open PySem PySem.Spec PyProof.Rows L2
/-! ### the text by places -/
def topS (i : Nat) : Stmt := PySem.Challenge.pw_spreadmounts_k89_deeds_as_texts.main.body.getD i (.Pass ⟨0, 0, 0, 0⟩)
abbrev sWhole : Stmt := topS 6
abbrev sName : Stmt := topS 7
abbrev sPath : Stmt := topS 8
abbrev sAbs : Stmt := topS 9
abbrev sEntry : Stmt := topS 13
abbrev sIsDeed : Stmt := topS 14
abbrev sWholeOf : Stmt := topS 17
abbrev sDeedText : Stmt := topS 18
abbrev sEntryText : Stmt := topS 19
abbrev sEntryOf : Stmt := topS 20
abbrev sReadDeed : Stmt := topS 21
abbrev sDeedOf : Stmt := topS 22
abbrev sCell : Stmt := topS 24
abbrev sDigit : Stmt := topS 25
abbrev sLText : Stmt := topS 26
abbrev sOne : Stmt := topS 27
abbrev sRoad : Stmt := topS 28
abbrev sLDeed : Stmt := topS 29
abbrev sWrong : Stmt := topS 30
abbrev sSpoilt : Stmt := topS 31
abbrev sRefused : Stmt := topS 32
abbrev sLaw : Stmt := topS 33
abbrev sTextI : Stmt := inClass (topS 3) 0
end Tx
set_option autoImplicit true
set_option Elab.async false
set_option linter.all false
set_option maxRecDepth 100000
set_option maxHeartbeats 4000000
namespace Tx
open PySem PySem.Spec PyProof.Rows L2 Cm
/-! ### whole numbers, names, paths -/
inductive Wh (K : PySem.W.Frag) (H : Hp) : V → Int → Int → Bool → Prop
  | int (i lo hi : Int) : Wh K H (.int i) lo hi (decide (lo ≤ i) && decide (i ≤ hi))
  | bl (b : Bool) (lo hi : Int) : Wh K H (.bl b) lo hi false
  | other {x : V} {n : String} (lo hi : Int) (ty : TyX K H x (.type n)) (h : kitB n "int" = some false) : Wh K H x lo hi false
def spWhole (K : PySem.W.Frag) : Sp := fun vs H Q _ => ∃ x lo hi b, vs = [x, .int lo, .int hi] ∧ Wh K H x lo hi b ∧ Q (.bl b) H
def letters : Str := "abcdefghijklmnopqrstuvwxyz"
def signB (c : Nat) : Bool := decide (c ∈ letters.cps.toList)
def nameB (z : Str) : Bool := decide (1 ≤ (z.length : Int)) && (decide ((z.length : Int) ≤ 8) && (z.cps.toList.map signB).all id)
def dots : List V := [.str ".", .str ".."]
def wordB (z : Str) : Bool := inV (.str z) dots || nameB z
def wordsOf (z : Str) : List Str := Txt.split (Txt.removeprefix z "/") "/"
def pathB (z : Str) : Bool := if z = "" then false else if z = "/" then true else ((wordsOf z).map wordB).all id
/-- a text, or something else -/
inductive Tn (K : PySem.W.Frag) (H : Hp) (f : Str → Bool) : V → Bool → Prop
  | str (z : Str) (h : z.length ≤ 100000) : Tn K H f (.str z) (f z)
  | other {x : V} {n : String} (ty : TyX K H x (.type n)) (h : kitB n "str" = some false) : Tn K H f x false
def spName (K : PySem.W.Frag) : Sp := fun vs H Q _ => ∃ x b, vs = [x] ∧ Tn K H nameB x b ∧ ∀ H', Same H H' → Q (.bl b) H'
def spPath (K : PySem.W.Frag) : Sp := fun vs H Q _ => ∃ x b, vs = [x] ∧ Tn K H pathB x b ∧ ∀ H', Same H H' → Q (.bl b) H'
/-- the names that stand as built-ins -/
structure Bi (mg : Str → Option Value) : Prop where
  isin : mg "isinstance" = none
  int : mg "int" = none
  bool : mg "bool" = none
  str : mg "str" = none
  dict : mg "dict" = none
  tuple : mg "tuple" = none
  range : mg "range" = none
  len : mg "len" = none
  all : mg "all" = none
  any : mg "any" = none
  sorted : mg "sorted" = none
/-- the constants -/
structure Co (mg : Str → Option Value) : Prop where
  letters : ∃ t, mg "LETTERS" = some (.str letters t)
theorem scWhole : FnScope ["thing", "low", "high"] ["thing", "low", "high"] (defScope sWhole) := ⟨rfl, rfl, rfl, by decide +kernel, rfl, by decide +kernel, by decide +kernel⟩
theorem scName : FnScope ["thing", "sign"] ["thing"] (defScope sName) := ⟨rfl, rfl, rfl, by decide +kernel, rfl, by decide +kernel, by decide +kernel⟩
theorem scPath : FnScope ["thing", "words", "word"] ["thing"] (defScope sPath) := ⟨rfl, rfl, rfl, by decide +kernel, rfl, by decide +kernel, by decide +kernel⟩
theorem take_snoc {α : Type} {l : List α} {i : Nat} {x : α} (h : l[i]? = some x) : l.take (i + 1) = l.take i ++ [x] := by
  rw [List.take_add_one, h]
  rfl
section
variable {P : Program} {w : World} {K : PySem.W.Frag} {mg : Str → Option Value} {base : Heap}
theorem ok_whole {f : Addr} {fd : FuncData} {k : Nat} (F : Fun K "is_whole" "is_whole" sWhole f fd) (B : Bi mg) : FnOk P w K mg base CX0 (k + 1) f fd ["thing", "low", "high"] (spWhole K) := by
  refine F.ok scWhole (fun vs H Q E h => ?_) (fun cdv A outer s H vs Q E hr h => ?_)
  · obtain ⟨x, lo, hi, b, rfl, _⟩ := h
    rfl
  · obtain ⟨x, lo, hi, b, rfl, hw, q⟩ := h
    refine ⟨_, pss_one (ps_ret (pe_and (pe_callB call_isi (by rfl) B.isin (by decide +kernel) (pa_cons (pv 0) (pa_cons (pe_bltn (v := .ty "int") (by rfl) B.int (by decide +kernel) rfl) pa_nil)))
      (pe_and (pe_not (pe_callB call_isi (by rfl) B.isin (by decide +kernel) (pa_cons (pv 0) (pa_cons (pe_bltn (v := .ty "bool") (by rfl) B.bool (by decide +kernel) rfl) pa_nil))))
        (pe_one (pe_chain op_le op_le (pv 1) (pv 0) (pv 2)))))), ?_⟩
    cases hw with
    | int i =>
      refine ⟨_, rfl, _, .ty "int", _, _, true, rfl, .ty _, .base (.int i), kit_ty (by decide +kernel), _, rfl, iteT ?_⟩
      refine ⟨_, rfl, _, .ty "bool", _, _, false, rfl, .ty _, .base (.int i), kit_ty (by decide +kernel), _, rfl, _, rfl, iteT ?_⟩
      refine ⟨_, rfl, _, rfl, _, _, rfl, rfl, _, rfl, ite2 (fun h => ?_) (fun h => ?_)⟩
      · refine ⟨_, rfl, _, _, rfl, rfl, ?_⟩
        rw [h] at q
        exact q
      · have h' : decide (lo ≤ i) = false := by simpa using h
        rw [h'] at q
        exact q
    | bl b =>
      refine ⟨_, rfl, _, .ty "int", _, _, true, rfl, .ty _, .base (.bl b), kit_ty (by decide +kernel), _, rfl, iteT ?_⟩
      refine ⟨_, rfl, _, .ty "bool", _, _, true, rfl, .ty _, .base (.bl b), kit_ty (by decide +kernel), _, rfl, _, rfl, iteF ?_⟩
      exact q
    | other _ _ ty hn =>
      exact ⟨_, rfl, _, .ty "int", _, _, false, rfl, .ty _, ty, kit_ty hn, _, rfl, iteF q⟩
/-- [sign in LETTERS for sign in z]: what the list holds -/
theorem signs_at (z : Str) {i : Nat} {c : Nat} (h : z.cps[i]? = some c) : (z.cps.toList.map signB)[i]? = some (signB c) := by
  rw [List.getElem?_map, Array.getElem?_toList, h]
  rfl
theorem ok_name {f : Addr} {fd : FuncData} {k : Nat} (F : Fun K "is_name" "is_name" sName f fd) (B : Bi mg) (C : Co mg) : FnOk P w K mg base CX0 (k + 1) f fd ["thing"] (spName K) := by
  obtain ⟨tl, hL⟩ := C.letters
  refine F.ok scName (fun vs H Q E h => ?_) (fun cdv A outer s H vs Q E hr h => ?_)
  · obtain ⟨x, b, rfl, _⟩ := h
    rfl
  · obtain ⟨x, b, rfl, hw, q⟩ := h
    refine ⟨_, pss_one (ps_ret (pe_and (pe_callB call_isi (by rfl) B.isin (by decide +kernel) (pa_cons (pv 0) (pa_cons (pe_bltn (v := .ty "str") (by rfl) B.str (by decide +kernel) rfl) pa_nil)))
      (pe_and (pe_chain op_le op_le pe_int (pe_callB call_len_str (by rfl) B.len PySem.boot_len (pa_cons (pv 0) pa_nil)) pe_int)
        (pe_one (pe_callB (cr_all rfl) (by rfl) B.all (by decide +kernel) (pa_cons (pe_lc (own := [("sign", 1)]) (g := gName 1) (tt := tYes) (by rfl) scName.nd (pi_str (pv 0)) (blkOk_by (own := [("sign", 1)]) (N := ["thing", "sign"]) (sc := defScope sName) (by decide +kernel)) (fun _ _ _ _ _ => pg_name (i := 1) scName.nd rfl (Or.inl rfl)) (fun _ _ _ _ _ => pts_nil)
          (fun _ _ _ _ _ => pe_cmpR op_in_sign (pv 1) (pe_glob (v := .str letters) (by rfl) hL ⟨_, rfl⟩) rfl)) pa_nil)))))), ?_⟩
    cases hw with
    | other ty hn => exact ⟨_, rfl, _, .ty "str", _, _, false, rfl, .ty _, ty, kit_ty hn, _, rfl, iteF (q H (Same.refl H))⟩
    | str z hz =>
      refine ⟨_, rfl, _, .ty "str", _, _, true, rfl, .ty _, .base (.str z), kit_ty (by decide +kernel), _, rfl, iteT ?_⟩
      refine ⟨_, rfl, z, rfl, Evl.sz_of hz, 1, _, rfl, rfl, _, rfl, ite2 (fun h1 => ?_) (fun h1 => ?_)⟩
      · refine ⟨_, _, rfl, rfl, _, rfl, ite2 (fun h2 => ?_) (fun h2 => ?_)⟩
        · refine ⟨_, rfl, z, rfl, fun D hD => lc_it walk_str (fun i H' => H' D = some (.lst (((z.cps.toList.map signB).take i).map V.bl)) ∧ Same H H') ⟨upd_same, same_new hD⟩ (fun _ _ _ _ => True.intro) ?_ ?_⟩
          · rintro i x H1 H2 hi ⟨h3, sm⟩ ⟨rfl, c, hc, rfl⟩
            refine ⟨rfl, _, rfl, c, letters, rfl, rfl, _, h3, Evl.sz_lt ?_, ?_, same_mut hD sm⟩
            · rw [List.length_map, List.length_take]
              exact Nat.lt_of_le_of_lt (Nat.min_le_left _ _) (Nat.lt_of_lt_of_le hi hz)
            · rw [upd_same, take_snoc (signs_at z hc), List.map_append]
              rfl
          · rintro H1 ⟨h3, sm⟩
            have e : (z.cps.toList.map signB).take z.cps.size = z.cps.toList.map signB := List.take_of_length_le (by rw [List.length_map, Array.length_toList]; exact Nat.le_refl _)
            rw [e] at h3
            refine ⟨D, _, rfl, SqL.of h3, ?_⟩
            have eb : nameB z = (z.cps.toList.map signB).all id := by
              unfold nameB
              rw [h1, h2, Bool.true_and, Bool.true_and]
            rw [← eb]
            exact q H1 sm
        · have eb : nameB z = false := by
            unfold nameB
            have h2' : decide ((z.length : Int) ≤ 8) = false := by simpa using h2
            rw [h2', Bool.false_and, Bool.and_false]
          rw [eb] at q
          exact q H (Same.refl H)
      · have eb : nameB z = false := by
          unfold nameB
          have h1' : decide (1 ≤ (z.length : Int)) = false := by simpa using h1
          rw [h1', Bool.false_and]
        rw [eb] at q
        exact ⟨_, rfl, iteF (q H (Same.refl H))⟩
theorem prefix_le (z : Str) : (Txt.removeprefix z "/").length ≤ z.length := by
  rw [StrLaws.removeprefix_eq]
  split
  · show (((z.cps.toList.drop _).take _).toArray).size ≤ z.cps.size
    rw [List.size_toArray, List.length_take, List.length_drop, Array.length_toList]
    omega
  · exact Nat.le_refl _
theorem opInK {X : Cx} {K : PySem.W.Frag} (h : X.K = K) : OpR X (compareOp .In) (rIn K false) := h ▸ op_in_seq
theorem ok_path {f fN : Addr} {fd fdN : FuncData} {k : Nat} (F : Fun K "is_path" "is_path" sPath f fd) (B : Bi mg) (N : Cl P w K mg base CX0 (k + 1) "is_name" ["thing"] (spName K)) : FnOk P w K mg base CX0 (k + 2) f fd ["thing"] (spPath K) := by
  refine F.ok scPath (fun vs H Q E h => ?_) (fun cdv A outer s H vs Q E hr h => ?_)
  · obtain ⟨x, b, rfl, _⟩ := h
    rfl
  · obtain ⟨x, b, rfl, hw, q⟩ := h
    refine ⟨_, pss_cons (ps_if (PW.pt (pw_or (pt_not (pt_val (pe_callB call_isi (by rfl) B.isin (by decide +kernel) (pa_cons (pv 0) (pa_cons (pe_bltn (v := .ty "str") (by rfl) B.str (by decide +kernel) rfl) pa_nil))))) (pw_or1 (pt_cmpR op_eq (pv 0) pe_str (nomark _))))) (pss_one (ps_ret pe_bl)) pss_nil)
      (pss_cons (ps_if (pt_cmpR op_eq (pv 0) pe_str (nomark _)) (pss_one (ps_ret pe_bl)) pss_nil)
      (pss_cons (ps_set (i := 1) scPath.nd rfl (.inl rfl) (pe_split (pe_bm PySem.F.plainAttrs_str PySem.F.slot_str_removeprefix PySem.F.type_str_removeprefix mt_removeprefix (pv 0) (pa_cons pe_str pa_nil)) pe_str))
      (pss_one (ps_ret (pe_callB (cr_all rfl) (by rfl) B.all (by decide +kernel) (pa_cons (pe_lc (own := [("word", 2)]) (g := gName 2) (tt := tYes) (by rfl) scPath.nd (pi_list (pv 1)) (blkOk_by (own := [("word", 2)]) (N := ["thing", "words", "word"]) (sc := defScope sPath) (by decide +kernel)) (fun _ _ _ _ _ => pg_name (i := 2) scPath.nd rfl (Or.inl rfl)) (fun _ _ _ _ _ => pts_nil)
          (fun _ _ _ _ _ => pe_or (pe_cmpR (opInK (K := K) rfl) (pv 2) (pe_tup (pa_cons pe_str (pa_cons pe_str pa_nil))) (by rfl)) (pe_one (pe_cl N hr (by omega) (by rfl) pass0 (pa_cons (pv 2) pa_nil))))) pa_nil)))))), ?_⟩
    cases hw with
    | other ty hn => exact ⟨_, rfl, _, .ty "str", _, _, false, rfl, .ty _, ty, kit_ty hn, _, rfl, iteT (iteT (q H (Same.refl H)))⟩
    | str z hz =>
      refine ⟨_, rfl, _, .ty "str", _, _, true, rfl, .ty _, .base (.str z), kit_ty (by decide +kernel), _, rfl, iteF ?_⟩
      refine ⟨_, rfl, rfl, _, rfl, ?_⟩
      by_cases e0 : z = ""
      · have eb : pathB z = false := by
          unfold pathB
          rw [if_pos e0]
        rw [eb] at q
        subst e0
        exact iteT (q H (Same.refl H))
      · rw [decide_eq_false (show ¬ V.str z = V.str "" from fun h => e0 (V.str.inj h))]
        refine iteF ⟨_, rfl, rfl, _, rfl, ?_⟩
        by_cases e1 : z = "/"
        · have eb : pathB z = true := by
            unfold pathB
            rw [if_neg e0, if_pos e1]
          rw [eb] at q
          subst e1
          exact iteT (q H (Same.refl H))
        · have eb : pathB z = ((wordsOf z).map wordB).all id := by
            unfold pathB
            rw [if_neg e0, if_neg e1]
          rw [decide_eq_false (show ¬ V.str z = V.str "/" from fun h => e1 (V.str.inj h))]
          refine iteF ⟨_, rfl, rfl, z, _, rfl, rfl, Evl.sz_of hz, ⟨_, rfl⟩, _, _, rfl, rfl, rfl, Nat.le_trans (show _ ≤ 100002 from Nat.add_le_add_right (Nat.le_trans (prefix_le z) hz) 2) (by decide), fun p hp => ?_⟩
          have hall : ∀ v ∈ wordsOf z, v.length ≤ 100000 := fun v hv => Nat.le_trans (part_short hv) (Nat.le_trans (prefix_le z) hz)
          have hlen : (wordsOf z).length < 200000 := Nat.lt_of_le_of_lt (split_le _ _) (Nat.lt_of_le_of_lt (Nat.add_le_add_right (Nat.le_trans (prefix_le z) hz) 2) (by decide))
          refine ⟨_, rfl, p, rfl, ⟨_, SqL.of upd_same⟩, fun D hD => lc_list (K := K) (a := p) (xs := (wordsOf z).map V.str) (fun i H' => H' D = some (.lst ((((wordsOf z).map wordB).take i).map V.bl)) ∧ H' p = some (.lst ((wordsOf z).map V.str)) ∧ Same H H') ⟨upd_same, by rw [upd_ne (ne_of_none upd_same hD)]; exact upd_same, (same_new hp).trans (same_new hD)⟩ (fun i H' _ h => SqL.of h.2.1) ?_ ?_⟩
          · rintro i x H1 hx ⟨h3, h4, sm⟩
            rw [List.getElem?_map] at hx
            cases ew : (wordsOf z)[i]? with
            | none =>
              rw [ew] at hx
              cases hx
            | some wd =>
              rw [ew] at hx
              cases hx
              have hi := (List.getElem?_eq_some_iff.mp ew).1
              have hD0 : H D = none := (same_new hp).free hD
              have np : p ≠ D := ne_of_none (show upd H p _ p = some _ from upd_same) hD
              have fin : ∀ H2, Same H1 H2 → (∃ acc, H2 D = some (.lst acc) ∧ acc.length < sizeLine ∧ upd H2 D (.lst (acc ++ [V.bl (wordB wd)])) D = some (.lst ((((wordsOf z).map wordB).take (i + 1)).map V.bl)) ∧ upd H2 D (.lst (acc ++ [V.bl (wordB wd)])) p = some (.lst ((wordsOf z).map V.str)) ∧ Same H (upd H2 D (.lst (acc ++ [V.bl (wordB wd)])))) := fun H2 s2 => by
                have eg : ((wordsOf z).map wordB)[i]? = some (wordB wd) := by
                  rw [List.getElem?_map, ew]
                  rfl
                refine ⟨_, s2 _ _ h3, Nat.lt_of_lt_of_le (show _ < 200000 from ?_) (by decide), ?_, ?_, same_mut hD0 (sm.trans s2)⟩
                · rw [List.length_map, List.length_take, List.length_map]
                  omega
                · rw [upd_same, take_snoc eg, List.map_append]
                  rfl
                · rw [upd_ne np]
                  exact s2 _ _ h4
              refine ⟨rfl, _, rfl, (by show 2 ≤ sizeLine; decide), fun t ht => ?_⟩
              refine ⟨t, dots, rfl, .inr (SqT.of upd_same), rfl, rfl, _, rfl, ite2 (fun c => ?_) (fun c => ?_)⟩
              · have ew1 : wordB wd = true := by
                  unfold wordB
                  rw [show inV (.str wd) dots = true from c, Bool.true_or]
                have := fin _ (same_new (o := HO.tup dots) ht)
                rw [ew1] at this
                exact this
              · have c' : inV (.str wd) dots = false := by simpa using c
                have ew1 : wordB wd = nameB wd := by
                  unfold wordB
                  rw [c', Bool.false_or]
                refine ⟨_, rfl, _, _, rfl, .str wd (hall wd (List.mem_of_getElem? ew)), fun H2 s2 => ?_⟩
                have := fin _ ((same_new (o := HO.tup dots) ht).trans s2)
                rw [ew1] at this
                exact this
          · rintro H1 ⟨h3, h4, sm⟩
            have e : ((wordsOf z).map wordB).take ((wordsOf z).map V.str).length = (wordsOf z).map wordB := List.take_of_length_le (by rw [List.length_map, List.length_map]; exact Nat.le_refl _)
            rw [e] at h3
            refine ⟨D, _, rfl, SqL.of h3, ?_⟩
            rw [← eb]
            exact q H1 sm
end
end Tx
set_option autoImplicit true
set_option Elab.async false
set_option linter.all false
set_option maxRecDepth 100000
set_option maxHeartbeats 4000000
/-! deeds: is_absolute, is_entry, is_deed -/
namespace Tx
open PySem PySem.Spec PyProof.Rows L2 Cm
/-- t == (), t a tuple -/
theorem op_eqE {X : Cx} (hu : X.A.units < cLine) : OpR X (compareOp .Eq) (fun x y H Q => ∃ a b xs, x = .ref a ∧ y = .ref b ∧ SqT X.K H a xs ∧ SqT X.K H b [] ∧ Q (.bl xs.isEmpty) H) := by
  intro pins s σ H x y v u Q I rx ry h
  obtain ⟨a, b, xs, rfl, rfl, ha, hb, q⟩ := h
  cases rx
  cases ry
  obtain ⟨its, r1, p1, _⟩ := I.tuple ha
  obtain ⟨its2, r2, p2, _⟩ := I.tuple hb
  cases r2
  refine SeqAt.eq_tupleAt (e := fun _ => true) p1 p2 hu (fun j h1 h2 => absurd h2 (by simp)) ⟨.bl _, H, I, rfl, ?_⟩
  cases r1 with
  | nil => exact q
  | cons _ _ => exact q
/-- neither a text nor a number -/
def Oth (H : Hp) (v : V) : Prop := v = .non ∨ ∃ p, v = .ref p ∧ ((∃ xs, H p = some (.lst xs)) ∨ (∃ xs, H p = some (.tup xs)) ∨ ∃ xs, H p = some (.dK xs))
theorem Oth.same {H H' : Hp} {v : V} (h : Oth H v) (s : Same H H') : Oth H' v := by
  rcases h with h | ⟨p, e, ⟨xs, h⟩ | ⟨xs, h⟩ | ⟨xs, h⟩⟩
  · exact .inl h
  · exact .inr ⟨p, e, .inl ⟨xs, s _ _ h⟩⟩
  · exact .inr ⟨p, e, .inr (.inl ⟨xs, s _ _ h⟩)⟩
  · exact .inr ⟨p, e, .inr (.inr ⟨xs, s _ _ h⟩)⟩
theorem Oth.ty {K : PySem.W.Frag} {H : Hp} {v : V} (h : Oth H v) : ∃ n, TyX K H v (.type n) ∧ kitB n "str" = some false ∧ kitB n "int" = some false ∧ kitB n "bool" = some false := by
  rcases h with rfl | ⟨p, rfl, ⟨xs, h⟩ | ⟨xs, h⟩ | ⟨xs, h⟩⟩
  · exact ⟨_, .base .non, by decide +kernel, by decide +kernel, by decide +kernel⟩
  · exact ⟨_, .base (.lst h), by decide +kernel, by decide +kernel, by decide +kernel⟩
  · exact ⟨_, .base (.tup h), by decide +kernel, by decide +kernel, by decide +kernel⟩
  · exact ⟨_, .base (.dK h), by decide +kernel, by decide +kernel, by decide +kernel⟩
/-- an entry of what may be a deed -/
inductive EV where
  | str (z : Str)
  | int (i : Int)
  | bl (b : Bool)
  | oth
deriving DecidableEq
def EvAt (H : Hp) (v : V) : EV → Prop
  | .str z => v = .str z ∧ z.length ≤ 100000
  | .int i => v = .int i
  | .bl b => v = .bl b
  | .oth => Oth H v
theorem EvAt.same {H H' : Hp} {v : V} {e : EV} (h : EvAt H v e) (s : Same H H') : EvAt H' v e := by
  cases e with
  | oth => exact Oth.same h s
  | _ => exact h
def kindsL : List Str := ["sharing", "following", "alone", "unbindable"]
def entryB (e : EV) (sort : Str) : Bool :=
  if sort = "path" then (match e with | .str z => pathB z && Txt.startswith z "/" | _ => false)
  else if sort = "space" then (match e with | .int _ => true | _ => false)
  else if sort = "kind" then (match e with | .str z => inV (.str z) (kindsL.map V.str) | _ => false)
  else if sort = "bool" then (match e with | .bl _ => true | _ => false)
  else true
def spAbs : Sp := fun vs H Q _ => ∃ z, vs = [.str z] ∧ Q (.bl (Txt.startswith z "/")) H
def spEntry : Sp := fun vs H Q _ => ∃ x e sort, vs = [x, .str sort] ∧ EvAt H x e ∧ ∀ H', Same H H' → Q (.bl (entryB e sort)) H'
theorem scAbs : FnScope ["path"] ["path"] (defScope sAbs) := ⟨rfl, rfl, rfl, by decide +kernel, rfl, by decide +kernel, by decide +kernel⟩
theorem scEntry : FnScope ["thing", "sort"] ["thing", "sort"] (defScope sEntry) := ⟨rfl, rfl, rfl, by decide +kernel, rfl, by decide +kernel, by decide +kernel⟩
theorem scIsDeed : FnScope ["thing", "form", "entry", "sort"] ["thing"] (defScope sIsDeed) := ⟨rfl, rfl, rfl, by decide +kernel, rfl, by decide +kernel, by decide +kernel⟩
section
variable {P : Program} {w : World} {K : PySem.W.Frag} {mg : Str → Option Value} {base : Heap}
theorem ok_abs {f : Addr} {fd : FuncData} {k : Nat} (F : Fun K "is_absolute" "is_absolute" sAbs f fd) : FnOk P w K mg base CX0 (k + 1) f fd ["path"] spAbs := by
  refine F.ok scAbs (fun vs H Q E h => ?_) (fun cdv A outer s H vs Q E hr h => ?_)
  · obtain ⟨z, rfl, _⟩ := h
    rfl
  · obtain ⟨z, rfl, q⟩ := h
    refine ⟨_, pss_one (ps_ret (pe_bm PySem.F.plainAttrs_str PySem.F.slot_str_startswith PySem.F.type_str_startswith mt_startswith (pv 0) (pa_cons pe_str pa_nil))), ?_⟩
    exact ⟨_, rfl, rfl, z, _, rfl, rfl, q⟩
/-- the tuple KINDS -/
def Kn (K : PySem.W.Frag) (mg : Str → Option Value) : Prop := ∃ a, mg "KINDS" = some (.ref a) ∧ ∀ H, SqT K H a (kindsL.map V.str)
theorem ok_entry {f : Addr} {fd : FuncData} {k : Nat} (F : Fun K "is_entry" "is_entry" sEntry f fd) (B : Bi mg) (Kd : Kn K mg) (Pt : Cl P w K mg base CX0 2 "is_path" ["thing"] (spPath K)) (Ab : Cl P w K mg base CX0 1 "is_absolute" ["path"] spAbs) : FnOk P w K mg base CX0 (k + 3) f fd ["thing", "sort"] spEntry := by
  obtain ⟨aK, mK, hK⟩ := Kd
  refine F.ok scEntry (fun vs H Q E h => ?_) (fun cdv A outer s H vs Q E hr h => ?_)
  · obtain ⟨x, e, sort, rfl, _⟩ := h
    rfl
  · obtain ⟨x, e, sort, rfl, he, q⟩ := h
    have sN : Same H H := Same.refl H
    refine ⟨_, pss_cons (ps_if (pt_cmpR op_eq (pv 1) pe_str (nomark _)) (pss_one (ps_ret (pe_and (pe_cl Pt hr (by omega) (by rfl) pass0 (pa_cons (pv 0) pa_nil)) (pe_one (pe_cl Ab hr (by omega) (by rfl) pass0 (pa_cons (pv 0) pa_nil)))))) pss_nil)
      (pss_cons (ps_if (pt_cmpR op_eq (pv 1) pe_str (nomark _)) (pss_one (ps_ret (pe_and (pe_callB call_isi (by rfl) B.isin (by decide +kernel) (pa_cons (pv 0) (pa_cons (pe_bltn (v := .ty "int") (by rfl) B.int (by decide +kernel) rfl) pa_nil))) (pe_one (pe_not (pe_callB call_isi (by rfl) B.isin (by decide +kernel) (pa_cons (pv 0) (pa_cons (pe_bltn (v := .ty "bool") (by rfl) B.bool (by decide +kernel) rfl) pa_nil)))))))) pss_nil)
      (pss_cons (ps_if (pt_cmpR op_eq (pv 1) pe_str (nomark _)) (pss_one (ps_ret (pe_and (pe_callB call_isi (by rfl) B.isin (by decide +kernel) (pa_cons (pv 0) (pa_cons (pe_bltn (v := .ty "str") (by rfl) B.str (by decide +kernel) rfl) pa_nil))) (pe_one (pe_cmpR op_in_seq (pv 0) (pe_glob (v := .ref aK) (by rfl) mK rfl) (by rfl)))))) pss_nil)
      (pss_cons (ps_if (pt_cmpR op_eq (pv 1) pe_str (nomark _)) (pss_one (ps_ret (pe_callB call_isi (by rfl) B.isin (by decide +kernel) (pa_cons (pv 0) (pa_cons (pe_bltn (v := .ty "bool") (by rfl) B.bool (by decide +kernel) rfl) pa_nil))))) pss_nil)
      (pss_one (ps_ret pe_bl))))), ?_⟩
    have dc : ∀ {a b : Str}, a ≠ b → decide (V.str a = V.str b) = false := fun {a b} n => decide_eq_false fun h => n (V.str.inj h)
    refine ⟨_, rfl, rfl, _, rfl, ?_⟩
    by_cases e1 : sort = "path"
    · subst e1
      refine iteT ?_
      have tn : ∃ b, Tn K H pathB x b ∧ (match e with | .str z => b = pathB z | _ => b = false) := by
        cases e with
        | str z => exact ⟨_, by rw [he.1]; exact .str z he.2, rfl⟩
        | int i => exact ⟨_, by rw [show x = .int i from he]; exact .other (.base (.int i)) (by decide +kernel), rfl⟩
        | bl b => exact ⟨_, by rw [show x = .bl b from he]; exact .other (.base (.bl b)) (by decide +kernel), rfl⟩
        | oth =>
          obtain ⟨n, ty, hs, _, _⟩ := Oth.ty (K := K) he
          exact ⟨_, .other ty hs, rfl⟩
      obtain ⟨b, tn, hb⟩ := tn
      refine ⟨_, rfl, _, _, rfl, tn, fun H1 s1 => ⟨b, rfl, ite2 (fun hb1 => ?_) (fun hb1 => ?_)⟩⟩
      · cases e with
        | str z =>
          refine ⟨_, rfl, z, by rw [he.1]; rfl, ?_⟩
          have := q H1 s1
          unfold entryB at this
          rw [if_pos rfl] at this
          dsimp only at this hb
          rw [← hb, hb1, Bool.true_and] at this
          exact this
        | _ =>
          dsimp only at hb
          rw [hb] at hb1
          cases hb1
      · have := q H1 s1
        unfold entryB at this
        rw [if_pos rfl] at this
        cases e with
        | str z =>
          dsimp only at this hb
          rw [← hb, show b = false by simpa using hb1, Bool.false_and] at this
          exact this
        | _ => exact this
    rw [dc e1]
    refine iteF ⟨_, rfl, rfl, _, rfl, ?_⟩
    by_cases e2 : sort = "space"
    · subst e2
      refine iteT ?_
      have q' := q H sN
      unfold entryB at q'
      rw [if_neg e1, if_pos rfl] at q'
      cases e with
      | int i =>
        cases (show x = .int i from he)
        exact ⟨_, rfl, _, .ty "int", _, _, true, rfl, .ty _, .base (.int i), kit_ty (by decide +kernel), _, rfl, iteT ⟨_, rfl, _, .ty "bool", _, _, false, rfl, .ty _, .base (.int i), kit_ty (by decide +kernel), _, rfl, q'⟩⟩
      | bl b =>
        cases (show x = .bl b from he)
        exact ⟨_, rfl, _, .ty "int", _, _, true, rfl, .ty _, .base (.bl b), kit_ty (by decide +kernel), _, rfl, iteT ⟨_, rfl, _, .ty "bool", _, _, true, rfl, .ty _, .base (.bl b), kit_ty (by decide +kernel), _, rfl, q'⟩⟩
      | str z =>
        cases (show x = .str z from he.1)
        exact ⟨_, rfl, _, .ty "int", _, _, false, rfl, .ty _, .base (.str z), kit_ty (by decide +kernel), _, rfl, iteF q'⟩
      | oth =>
        obtain ⟨n, ty, _, hi, _⟩ := Oth.ty (K := K) he
        exact ⟨_, rfl, _, .ty "int", _, _, false, rfl, .ty _, ty, kit_ty hi, _, rfl, iteF q'⟩
    rw [dc e2]
    refine iteF ⟨_, rfl, rfl, _, rfl, ?_⟩
    by_cases e3 : sort = "kind"
    · subst e3
      refine iteT ?_
      have q' := q H sN
      unfold entryB at q'
      rw [if_neg e1, if_neg e2, if_pos rfl] at q'
      cases e with
      | str z =>
        cases (show x = .str z from he.1)
        exact ⟨_, rfl, _, .ty "str", _, _, true, rfl, .ty _, .base (.str z), kit_ty (by decide +kernel), _, rfl, iteT ⟨_, rfl, aK, _, rfl, .inr (hK _), rfl, rfl, q'⟩⟩
      | int i =>
        cases (show x = .int i from he)
        exact ⟨_, rfl, _, .ty "str", _, _, false, rfl, .ty _, .base (.int i), kit_ty (by decide +kernel), _, rfl, iteF q'⟩
      | bl b =>
        cases (show x = .bl b from he)
        exact ⟨_, rfl, _, .ty "str", _, _, false, rfl, .ty _, .base (.bl b), kit_ty (by decide +kernel), _, rfl, iteF q'⟩
      | oth =>
        obtain ⟨n, ty, hs, _, _⟩ := Oth.ty (K := K) he
        exact ⟨_, rfl, _, .ty "str", _, _, false, rfl, .ty _, ty, kit_ty hs, _, rfl, iteF q'⟩
    rw [dc e3]
    refine iteF ⟨_, rfl, rfl, _, rfl, ?_⟩
    by_cases e4 : sort = "bool"
    · subst e4
      refine iteT ?_
      have q' := q H sN
      unfold entryB at q'
      rw [if_neg e1, if_neg e2, if_neg e3, if_pos rfl] at q'
      cases e with
      | str z =>
        cases (show x = .str z from he.1)
        exact ⟨_, rfl, _, .ty "bool", _, _, false, rfl, .ty _, .base (.str z), kit_ty (by decide +kernel), q'⟩
      | int i =>
        cases (show x = .int i from he)
        exact ⟨_, rfl, _, .ty "bool", _, _, false, rfl, .ty _, .base (.int i), kit_ty (by decide +kernel), q'⟩
      | bl b =>
        cases (show x = .bl b from he)
        exact ⟨_, rfl, _, .ty "bool", _, _, true, rfl, .ty _, .base (.bl b), kit_ty (by decide +kernel), q'⟩
      | oth =>
        obtain ⟨n, ty, _, _, hb⟩ := Oth.ty (K := K) he
        exact ⟨_, rfl, _, .ty "bool", _, _, false, rfl, .ty _, ty, kit_ty hb, q'⟩
    rw [dc e4]
    refine iteF ?_
    have q' := q H sN
    unfold entryB at q'
    rw [if_neg e1, if_neg e2, if_neg e3, if_neg e4] at q'
    exact q'
/-! ### is_deed -/
def formsL : List (Str × List Str) := [("mount", ["space", "tree", "path"]), ("bind", ["space", "path", "path"]), ("bind all", ["space", "path", "path"]), ("move", ["space", "path", "path"]), ("unmount", ["space", "path"]), ("unmount all", ["space", "path"]), ("make", ["space", "path", "kind"]), ("make all", ["space", "path", "kind"]), ("clone", ["space", "bool"])]
/-- words that are none -/
def noWords : List Str := ["mounts", "bind-all", "", "Mount"]
/-- the dict FORMS -/
structure Fm (K : PySem.W.Frag) (w : World) (mg : Str → Option Value) : Prop where
  ex : ∃ aF es n, mg "FORMS" = some (.ref aF) ∧ KDict K w aF es n ∧ (∀ p ∈ formsL, ∃ t, PySem.W.nsIn K aF p.1 = some (some (.ref t)) ∧ ∀ H, SqT K H t (p.2.map V.str)) ∧ ∀ z ∈ noWords, PySem.W.nsIn K aF z = some none
/-- a value that may be a deed -/
inductive TV where
  | tup (es : List EV)
  | no
def TvAt (H : Hp) (v : V) : TV → Prop
  | .tup es => ∃ a xs, v = .ref a ∧ H a = some (.tup xs) ∧ Paired (EvAt H) xs es ∧ es.length ≤ 900 ∧ (∀ z, es.head? = some (.str z) → z ∈ formsL.map (·.1) ∨ z ∈ noWords)
  | .no => v = .non ∨ (∃ z, v = .str z) ∨ (∃ p, v = .ref p ∧ ((∃ xs, H p = some (.lst xs)) ∨ ∃ xs, H p = some (.dK xs))) ∨ (∃ i, v = .int i) ∨ ∃ b, v = .bl b
theorem pdE {H H' : Hp} (s : Same H H') : ∀ {xs : List V} {es : List EV}, Paired (EvAt H) xs es → Paired (EvAt H') xs es
  | _, _, .nil => .nil
  | _, _, .cons a r => .cons (a.same s) (pdE s r)
theorem TvAt.same {H H' : Hp} {v : V} {t : TV} (h : TvAt H v t) (s : Same H H') : TvAt H' v t := by
  cases t with
  | tup es =>
    obtain ⟨a, xs, e, ha, p, l, k⟩ := h
    exact ⟨a, xs, e, s _ _ ha, pdE s p, l, k⟩
  | no =>
    rcases h with h | h | ⟨p, e, ⟨xs, h⟩ | ⟨xs, h⟩⟩ | h | h
    · exact .inl h
    · exact .inr (.inl h)
    · exact .inr (.inr (.inl ⟨p, e, .inl ⟨xs, s _ _ h⟩⟩))
    · exact .inr (.inr (.inl ⟨p, e, .inr ⟨xs, s _ _ h⟩⟩))
    · exact .inr (.inr (.inr (.inl h)))
    · exact .inr (.inr (.inr (.inr h)))
def formOf (z : Str) : Option (List Str) := (formsL.find? fun p => p.1 == z).map (·.2)
def deedB : TV → Bool
  | .no => false
  | .tup [] => false
  | .tup (.str z :: es) => match formOf z with
    | none => false
    | some fm => if (es.length = fm.length) then ((es.zip fm).map fun p => entryB p.1 p.2).all id else false
  | .tup (_ :: _) => false
def spIsDeed : Sp := fun vs H Q _ => ∃ x t, vs = [x] ∧ TvAt H x t ∧ ∀ H', Same H H' → Q (.bl (deedB t)) H'
theorem walk_zipT {K : PySem.W.Frag} {a b : Addr} {xs ys : List V} {n : Nat} (hn : n = min xs.length ys.length) : Walk (RZ.ItzT K a b) n (fun H => SqT K H a xs ∧ SqT K H b ys) (fun i H v H' => ∃ T x y, v = .ref T ∧ H T = none ∧ H' = upd H T (.tup [x, y]) ∧ xs[i]? = some x ∧ ys[i]? = some y) := by
  refine ⟨fun i H hi g => ⟨xs, ys, xs[i]'(by omega), ys[i]'(by omega), g.1, g.2, List.getElem?_eq_getElem _, List.getElem?_eq_getElem _⟩, fun H g => ⟨xs, ys, g.1, g.2, by omega⟩, ?_⟩
  rintro i H x H' hi g ⟨T, y, z, e, h1, h2, h3, h4⟩
  exact ⟨T, y, z, e, h1, h2, h3 _ g.1, h4 _ g.2⟩
theorem deedB_str (z : Str) (es : List EV) : deedB (.tup (.str z :: es)) = (match formOf z with
    | none => false
    | some fm => if (es.length = fm.length) then ((es.zip fm).map fun p => entryB p.1 p.2).all id else false) := rfl
theorem sIx1 (n d : Nat) : HT.sIx (n + 1) d (some 1) = 1 := (HT.sIx_nat (n + 1) d 1).trans (by omega)
theorem cut_tail {x : V} {xs : List V} : cutV (x :: xs) (some 1) none = xs := by
  unfold cutV
  rw [List.length_cons, sIx1, HT.sIx_none]
  exact List.take_of_length_le (by simp)
theorem form_yes {z : Str} (h : z ∈ formsL.map (·.1)) : ∃ p ∈ formsL, p.1 = z ∧ formOf z = some p.2 ∧ p.2.length ≤ 3 := by
  simp only [formsL, List.map_cons, List.map_nil, List.mem_cons, List.not_mem_nil, or_false] at h
  rcases h with rfl | rfl | rfl | rfl | rfl | rfl | rfl | rfl | rfl
  · exact ⟨("mount", ["space", "tree", "path"]), by decide +kernel, rfl, by decide +kernel, by decide⟩
  · exact ⟨("bind", ["space", "path", "path"]), by decide +kernel, rfl, by decide +kernel, by decide⟩
  · exact ⟨("bind all", ["space", "path", "path"]), by decide +kernel, rfl, by decide +kernel, by decide⟩
  · exact ⟨("move", ["space", "path", "path"]), by decide +kernel, rfl, by decide +kernel, by decide⟩
  · exact ⟨("unmount", ["space", "path"]), by decide +kernel, rfl, by decide +kernel, by decide⟩
  · exact ⟨("unmount all", ["space", "path"]), by decide +kernel, rfl, by decide +kernel, by decide⟩
  · exact ⟨("make", ["space", "path", "kind"]), by decide +kernel, rfl, by decide +kernel, by decide⟩
  · exact ⟨("make all", ["space", "path", "kind"]), by decide +kernel, rfl, by decide +kernel, by decide⟩
  · exact ⟨("clone", ["space", "bool"]), by decide +kernel, rfl, by decide +kernel, by decide⟩
theorem form_no {z : Str} (h : z ∈ noWords) : formOf z = none := by
  simp only [noWords, List.mem_cons, List.not_mem_nil, or_false] at h
  rcases h with rfl | rfl | rfl | rfl <;> decide +kernel
theorem pd_at {α : Type} {F : V → α → Prop} {xs : List V} {ws : List α} (p : Paired F xs ws) : ∀ {i : Nat} {x : V}, xs[i]? = some x → ∃ w, ws[i]? = some w ∧ F x w := by
  induction p with
  | nil =>
    intro i x e
    cases e
  | cons a r ih =>
    intro i x e
    match i, e with
    | 0, e =>
      cases e
      exact ⟨_, rfl, a⟩
    | i + 1, e => exact ih e
theorem ok_isdeed {f : Addr} {fd : FuncData} {k : Nat} (F : Fun K "is_deed" "is_deed" sIsDeed f fd) (B : Bi mg) (hz : mg "zip" = none) (Fo : Fm K w mg) (En : Cl P w K mg base CX0 3 "is_entry" ["thing", "sort"] spEntry) : FnOk P w K mg base CX0 (k + 4) f fd ["thing"] spIsDeed := by
  obtain ⟨aF, es0, n0, mF, KD, fy, fn⟩ := Fo.ex
  refine F.ok scIsDeed (fun vs H Q E h => ?_) (fun cdv A outer s H vs Q E hr h => ?_)
  · obtain ⟨x, t, rfl, _⟩ := h
    rfl
  · obtain ⟨x, t, rfl, ht, q⟩ := h
    have hu : (cxOf CX0 P w K mg base ["thing", "form", "entry", "sort"] "is_deed" (defScope sIsDeed) f cdv A outer s H E).nox.A.units < cLine := Nat.lt_of_le_of_lt (Nat.le_add_right _ 64) hr.units
    refine ⟨_, pss_cons (ps_if (PW.pt (pw_or (pt_not (pt_val (pe_callB call_isi (by rfl) B.isin (by decide +kernel) (pa_cons (pv 0) (pa_cons (pe_bltn (v := .ty "tuple") (by rfl) B.tuple (by decide +kernel) rfl) pa_nil)))))
        (pw_or (pt_cmpR (op_eqE hu) (pv 0) (pe_tup pa_nil) (nomark _))
        (pw_or (pt_not (pt_val (pe_callB call_isi (by rfl) B.isin (by decide +kernel) (pa_cons (pe_ix ix_tup (pv 0) pe_int (fun _ _ => rfl)) (pa_cons (pe_bltn (v := .ty "str") (by rfl) B.str (by decide +kernel) rfl) pa_nil)))))
        (pw_or1 (pt_cmpR (op_notIn_kd KD) (pe_ix ix_tup (pv 0) pe_int (fun _ _ => rfl)) (pe_glob (v := .ref aF) (by rfl) mF rfl) (by rfl))))))) (pss_one (ps_ret pe_bl)) pss_nil)
      (pss_cons (ps_set (i := 1) scIsDeed.nd rfl (.inl rfl) (pe_ix ix_kdict (pe_glob (v := .ref aF) (by rfl) mF rfl) (pe_ix ix_tup (pv 0) pe_int (fun _ _ => rfl)) (fun _ _ => rfl)))
      (pss_cons (ps_if (pt_cmpR op_ne (pe_callB call_len_seq (by rfl) B.len PySem.boot_len (pa_cons (pv 0) pa_nil)) (pe_op op_add (pe_callB call_len_seq (by rfl) B.len PySem.boot_len (pa_cons (pv 1) pa_nil)) pe_int) (nomark _)) (pss_one (ps_ret pe_bl)) pss_nil)
      (pss_one (ps_ret (pe_callB (cr_all rfl) (by rfl) B.all (by decide +kernel) (pa_cons (pe_lc (own := [("entry", 2), ("sort", 3)]) (g := gTup K 2 (gCons (gName 2) (gCons (gName 3) gNil))) (tt := tYes) (by rfl) scIsDeed.nd (RZ.pi_zipA (by rfl) hz (pa_cons (pe_slice sl_tup (pv 0) (po_some pe_int) po_none) (pa_cons (pv 1) pa_nil))) (blkOk_by (own := [("entry", 2), ("sort", 3)]) (N := ["thing", "form", "entry", "sort"]) (sc := defScope sIsDeed) (by decide +kernel))
          (fun _ _ _ _ _ => pg_tup rfl (pgs_cons (pg_name (i := 2) scIsDeed.nd rfl (Or.inl rfl)) (pgs_cons (pg_name (i := 3) scIsDeed.nd rfl (Or.inl rfl)) pgs_nil))) (fun _ _ _ _ _ => pts_nil)
          (fun _ _ _ _ _ => pe_cl En hr (by omega) (by rfl) pass0 (pa_cons (pv 2) (pa_cons (pv 3) pa_nil)))) pa_nil)))))), ?_⟩
    have sN : Same H H := Same.refl H
    cases t with
    | no =>
      have q' := q H sN
      rcases ht with rfl | ⟨z, rfl⟩ | ⟨p, rfl, ⟨xs, h⟩ | ⟨xs, h⟩⟩ | ⟨i, rfl⟩ | ⟨b, rfl⟩
      · exact ⟨_, rfl, _, .ty "tuple", _, _, false, rfl, .ty _, .base .non, kit_ty (by decide +kernel), _, rfl, iteT (iteT q')⟩
      · exact ⟨_, rfl, _, .ty "tuple", _, _, false, rfl, .ty _, .base (.str z), kit_ty (by decide +kernel), _, rfl, iteT (iteT q')⟩
      · exact ⟨_, rfl, _, .ty "tuple", _, _, false, rfl, .ty _, .base (.lst h), kit_ty (by decide +kernel), _, rfl, iteT (iteT q')⟩
      · exact ⟨_, rfl, _, .ty "tuple", _, _, false, rfl, .ty _, .base (.dK h), kit_ty (by decide +kernel), _, rfl, iteT (iteT q')⟩
      · exact ⟨_, rfl, _, .ty "tuple", _, _, false, rfl, .ty _, .base (.int i), kit_ty (by decide +kernel), _, rfl, iteT (iteT q')⟩
      · exact ⟨_, rfl, _, .ty "tuple", _, _, false, rfl, .ty _, .base (.bl b), kit_ty (by decide +kernel), _, rfl, iteT (iteT q')⟩
    | tup es =>
      obtain ⟨a, xs, rfl, ha, pd, hl, hw⟩ := ht
      refine ⟨_, rfl, _, .ty "tuple", _, _, true, rfl, .ty _, .base (.tup ha), kit_ty (by decide +kernel), _, rfl, iteF ?_⟩
      refine ⟨_, rfl, (by show 0 ≤ sizeLine; decide), fun p0 hp0 => ?_⟩
      have s0 := same_new (o := HO.tup []) hp0
      have ha0 := s0 _ _ ha
      refine ⟨a, p0, xs, rfl, rfl, SqT.of ha0, SqT.of upd_same, _, rfl, ?_⟩
      cases pd with
      | nil => exact iteT (iteT (q _ s0))
      | @cons x0 e0 xr er h0 hr0 =>
        refine iteF ?_
        have h00 := h0.same s0
        refine ⟨_, rfl, a, _, 0, x0, rfl, rfl, SqT.of ha0, atI_nat (j := 0) rfl, ?_⟩
        cases e0 with
        | int i =>
          cases (show x0 = .int i from h0)
          exact ⟨_, .ty "str", _, _, false, rfl, .ty _, .base (.int i), kit_ty (by decide +kernel), _, rfl, iteT (iteT (q _ s0))⟩
        | bl b =>
          cases (show x0 = .bl b from h0)
          exact ⟨_, .ty "str", _, _, false, rfl, .ty _, .base (.bl b), kit_ty (by decide +kernel), _, rfl, iteT (iteT (q _ s0))⟩
        | oth =>
          obtain ⟨n, ty, hs, _, _⟩ := Oth.ty (K := K) h00
          exact ⟨_, .ty "str", _, _, false, rfl, .ty _, ty, kit_ty hs, _, rfl, iteT (iteT (q _ s0))⟩
        | str z =>
          cases (show x0 = .str z from h0.1)
          refine ⟨_, .ty "str", _, _, true, rfl, .ty _, .base (.str z), kit_ty (by decide +kernel), _, rfl, iteF ?_⟩
          refine ⟨_, rfl, a, _, 0, .str z, rfl, rfl, SqT.of ha0, atI_nat (j := 0) rfl, ?_⟩
          rcases hw z rfl with hz' | hz'
          · obtain ⟨p, hp, rfl, hf, hp3⟩ := form_yes hz'
            obtain ⟨t, ht, hS⟩ := fy p hp
            refine ⟨_, _, rfl, rfl, ht, _, rfl, iteF ?_⟩
            refine ⟨_, rfl, a, _, 0, .str p.1, rfl, rfl, SqT.of ha0, atI_nat (j := 0) rfl, aF, p.1, .ref t, rfl, rfl, ⟨_, _, _, KD.at_, KD.lit, ht, rfl⟩, ?_⟩
            refine ⟨_, rfl, a, _, rfl, .inr (SqT.of ha0), _, rfl, t, _, rfl, .inr (hS _), _, _, rfl, rfl, rfl, _, rfl, ?_⟩
            have lx := Paired.length hr0
            have lf : (p.2.map V.str).length = p.2.length := List.length_map _
            rw [deedB_str, hf] at q
            dsimp only at q
            by_cases hle : er.length = p.2.length
            · rw [if_pos hle] at q
              rw [decide_eq_true (show V.int ((V.str p.1 :: xr).length : Nat) = V.int (((p.2.map V.str).length : Nat) + 1) by rw [lf, List.length_cons, lx, hle]; rfl)]
              refine iteF ?_
              refine ⟨_, rfl, 1, rfl, a, _, rfl, SqT.of ha0, fun z => ?_, fun p1 hp1 => ?_⟩
              · have z1 := z.1
                have e : HT.sIx (V.str p.1 :: xr).length 0 (some 1) = 1 := sIx1 _ _
                rw [e] at z1
                cases z1
              · rw [cut_tail]
                have s1 := same_new (o := HO.tup xr) hp1
                have hE := pdE (s0.trans s1) hr0
                refine ⟨_, rfl, p1, t, xr, _, rfl, .inr ⟨SqT.of upd_same, hS _, fun D hD => lc_it (walk_zipT (K := K) rfl) (fun i H' => H' D = some (.lst ((((er.zip p.2).map fun p => entryB p.1 p.2).take i).map V.bl)) ∧ Same (upd (upd H p0 (.tup [])) p1 (.tup xr)) H') ⟨upd_same, same_new hD⟩ (fun i H' _ h => ⟨SqT.of (h.2 _ _ upd_same), hS _⟩) ?_ ?_⟩⟩
                · rintro i x H1 H2 hi ⟨h3, sm⟩ ⟨T, xx, yy, rfl, hT, rfl, hx, hy⟩
                  obtain ⟨ee, hee, hev⟩ := pd_at hE hx
                  rw [List.getElem?_map] at hy
                  cases es1 : p.2[i]? with
                  | none =>
                    rw [es1] at hy
                    cases hy
                  | some so =>
                    rw [es1] at hy
                    cases hy
                    have sT := same_new (o := HO.tup [xx, .str so]) hT
                    refine ⟨T, _, rfl, SqT.of upd_same, rfl, _, _, rfl, _, _, rfl, rfl, rfl, _, rfl, _, rfl, xx, ee, so, rfl, hev.same (sm.trans sT), fun H3 s3 => ?_⟩
                    refine ⟨_, s3 _ _ (sT _ _ h3), small1000 ?_, ?_, same_mut hD ((sm.trans sT).trans s3)⟩
                    · rw [List.length_map, List.length_take, List.length_map, List.length_zip]
                      omega
                    · have ez : ((er.zip p.2).map fun p => entryB p.1 p.2)[i]? = some (entryB ee so) := by
                        rw [List.getElem?_map, List.getElem?_zip_eq_some (z := (ee, so)).mpr ⟨hee, es1⟩]
                        rfl
                      rw [upd_same, take_snoc ez, List.map_append]
                      rfl
                · rintro H1 ⟨h3, sm⟩
                  have e : ((er.zip p.2).map fun p => entryB p.1 p.2).take (min xr.length (p.2.map V.str).length) = (er.zip p.2).map fun p => entryB p.1 p.2 := List.take_of_length_le (by rw [List.length_map, List.length_zip, lf, lx]; exact Nat.le_refl _)
                  rw [e] at h3
                  exact ⟨D, _, rfl, SqL.of h3, q H1 ((s0.trans s1).trans sm)⟩
            · rw [if_neg hle] at q
              rw [decide_eq_false (show ¬ V.int ((V.str p.1 :: xr).length : Nat) = V.int (((p.2.map V.str).length : Nat) + 1) from fun z => hle (by
                have z' := V.int.inj z
                rw [lf, List.length_cons, lx] at z'
                omega))]
              exact iteT (q _ s0)
          · refine ⟨_, _, rfl, rfl, fn z hz', _, rfl, iteT ?_⟩
            have := q _ s0
            rw [deedB_str, form_no hz'] at this
            exact this
end
end Tx
set_option Elab.async false
set_option linter.all false
set_option maxRecDepth 100000
set_option maxHeartbeats 4000000
set_option autoImplicit false
/-! a token is out: str.replace; a written dict of the module, key by key -/
namespace Tk
open PySem PySem.Spec PyProof.Rows L2
/-- behind e a token is out -/
def PEG (X : Cx) (e : Expr) (t : TE) : Prop :=
  ∀ (pins : List (Addr × Obj)) (s : Shared) (σ : L2.St) (H : Hp) (Q : VK), Inv X pins σ H s → t σ H Q → wpAny (model X.prog X.w) X.A (eval e X.env) (fun v s' => 1 ≤ s'.toks ∧ EP X pins σ Q v s') X.xe s
section
variable {X : Cx} {a b c e : Expr} {ta tb tc te : TE} {pos : Pos}
theorem PEG.pe (h : PEG X e te) : PE X e te := ⟨fun pins s σ H Q I q => thn (h pins s σ H Q I q) fun _ _ z => z.2⟩
theorem peg_str {x : Str} {j : Nat} {p : Pos} : PEG X (.Constant (.str x) j p) (tC (.str x)) := fun _ s _ H _ I h => Calls.Constant_str ⟨by show 1 ≤ s.toks + 1; omega, .str x, H, I.tok _, ⟨_, rfl⟩, h⟩
theorem peg_int {i : Int} {j : Nat} {p : Pos} : PEG X (.Constant (.int i) j p) (tC (.int i)) := fun _ s _ H _ I h => wpAny_Constant_int ⟨by show 1 ≤ s.toks + 1; omega, .int i, H, I.tok _, ⟨_, rfl⟩, h⟩
/-- e[b], b with a token -/
theorem peg_ix {r : R2} (hr : IxR X r) (ha : PE X a ta) (hb : PEG X b tb) (hs : PlainIx b) : PEG X (.Subscript a b pos) (tOp r ta tb) := by
  intro pins s σ H Q I h
  refine Subscript_ (thn (ha.run pins s σ H _ I h) fun v s1 ⟨x, H1, I1, r1, q1⟩ => ?_)
  refine thn (hb pins s1 σ H1 _ I1 q1) fun u s2 ⟨k, y, H2, I2, r2, q2⟩ => ?_
  exact wpAny_mono (PySem.wpAny_toks_of k (hr a b pins s2 σ H2 x y v u Q I2 r1 r2 q2 (hs _ _))) (fun _ _ z => z) fun _ _ z => z.2
/-- a op b, a with a token -/
theorem peg_op {op : Operator} {r : R2} (ho : OpR X (binaryOp op) r) (ha : PEG X a ta) (hb : PE X b tb) : PEG X (.BinOp a op b pos) (tOp r ta tb) := by
  intro pins s σ H Q I h
  refine wpAny_BinOp (thn (ha pins s σ H _ I h) fun v s1 ⟨k, x, H1, I1, r1, q1⟩ => ?_)
  refine wpAny_mono (PySem.wpAny_toks_of k (hb.run pins s1 σ H1 _ I1 q1)) (fun u s2 ⟨k2, y, H2, I2, r2, q2⟩ => ?_) fun _ _ z => z.2
  exact wpAny_mono (PySem.wpAny_toks_of k2 (ho pins s2 σ H2 x y v u Q I2 r1 r2 q2)) (fun _ _ z => z) fun _ _ z => z.2
theorem peg_ifExp {t : TT} (hc : PT X c t) (ha : PEG X a ta) (hb : PEG X b tb) : PEG X (.IfExp c a b pos) (tIf t ta tb) := by
  intro pins s σ H Q I h
  refine wpAny_IfExp (thn (hc.run pins s σ H _ I h) fun d s1 ⟨H1, I1, q1⟩ => ?_)
  cases d with
  | true => exact ha pins s1 σ H1 Q I1 q1
  | false => exact hb pins s1 σ H1 Q I1 q1
/-- o.m(..), an argument written with a token -/
theorem peg_bm1 {T id : String} {name : Str} {r : V → List V → Hp → VK → Prop} {o : Expr} {to : TE} {apos cpos : Pos} {x : Str} {j : Nat} {p : Pos} (pa : PlainAttrs T) (slot : Slot T name id) (hty : typeOf (.builtin id) = pure (.type "method_descriptor")) (hm : MtR X id r) (ho : PE X o to)
    (hbase : attributeBase o name X.env (eval o X.env) = eval o X.env := by rfl)
    (hfew : ((backTo cpos (starEach [.Constant (.str x) j p] X.env)).all (fun x => !x.1) && (backToKw cpos (keywordEach [] X.env)).all (fun x => x.1.isSome)
      && decide (([.Constant (.str x) j p] : List Expr).length + ([] : List Keyword).length + (if ([] : List Keyword).isEmpty then 0 else 1) < 30)) = true := by rfl)
    (hline : (apos.endLine == cpos.line) = true := by rfl) :
    PEG X (.Call (.Attribute o name apos) [.Constant (.str x) j p] [] cpos) (tBM X.K T r to (tCons (tC (.str x)) tNil)) := by
  intro pins s σ H Q I h
  refine wpAny_Call_method_late hbase hfew hline rfl (thn (ho.run pins s σ H _ I h) fun v s1 ⟨y, H1, I1, r1, ty, q1⟩ => ?_)
  obtain ⟨h1, h2⟩ := tyV_is I1 r1 ty
  refine ⟨T, id, pa, slot, hty, h1, h2, ?_⟩
  show wpAny _ _ (callWith cpos (.builtin id) [v] ((false, eval (.Constant (.str x) j p) X.env) :: backTo cpos (starEach [] X.env)) _) _ _ s1
  refine Calls.callWith_builtin rfl (Calls.evalArgs_plain (Calls.spliced_cons (Calls.Constant_str (Calls.spliced_nil ?_))))
  have hc := hm pins { s1 with toks := s1.toks + 1 } σ H1 y [.str x] v [.str x s1.toks] Q (I1.tok _) r1 (.cons ⟨_, rfl⟩ .nil) q1
  exact wpAny_mono (PySem.wpAny_toks_of (n := 1) (by show 1 ≤ s1.toks + 1; omega) hc) (fun _ _ z => z) fun _ _ z => z.2
/-- [text] -/
theorem peg_lst1 {x : Str} {j : Nat} {p : Pos} : PEG X (.List [.Constant (.str x) j p] pos) (tLst (tCons (tC (.str x)) tNil)) := by
  intro pins s σ H Q I hq
  refine wpAny_List_spliced ?_
  show wpAny _ _ (spliced ((false, eval (.Constant (.str x) j p) X.env) :: backTo pos (starEach [] X.env))) _ _ s
  refine Calls.spliced_cons (Calls.Constant_str (Calls.spliced_nil ?_))
  obtain ⟨z, q⟩ := hq
  have hf : H s.heap.objs.size = none := I.hok.fresh (Nat.le_refl _)
  exact ⟨z, by show 1 ≤ s.toks + 1; omega, .ref s.heap.objs.size, upd H s.heap.objs.size (.lst [.str x]), I.laid (t' := s.toks + 1) (fun b u e => Heap.get?_push_of_some _ e) (Nat.le_refl _) ⟨z, [.str x s.toks], 0, .cons ⟨_, rfl⟩ .nil, Heap.get?_push_size _ rfl⟩, rfl, q _ hf⟩
/-- e.replace(y, z), behind e a token is out -/
theorem pe_replG {o : Expr} {to : TE} {y z : Str} {j k : Nat} {c0 c1 apos : Pos} (ho : PEG X o to) (hyz : (y == z) = false := by decide)
    (hst : starEach [.Constant (.str y) j c0, .Constant (.str z) k c1] X.env = [(false, eval (.Constant (.str y) j c0) X.env), (false, eval (.Constant (.str z) k c1) X.env)] := by rfl)
    (hbase : attributeBase o "replace" X.env (eval o X.env) = eval o X.env := by rfl) (hline : (apos.endLine == pos.line) = true := by rfl) :
    PE X (.Call (.Attribute o "replace" apos) [.Constant (.str y) j c0, .Constant (.str z) k c1] [] pos) (CwR.tReplC to y z) := by
  refine ⟨fun pins s σ H Q I h => ?_⟩
  refine PySem.Call_method2 hbase hst hline (thn (ho pins s σ H _ I h) fun v s1 ⟨hk, v', H1, I1, r1, x, e1, hb, q⟩ => ?_)
  subst e1
  obtain ⟨tx, e2⟩ := r1
  subst e2
  refine ⟨"str", _, PySem.F.plainAttrs_str, PySem.F.slot_str_replace, PySem.F.type_str_replace, typeIs_str _ _ _, (fun _ e => nomatch e), Calls.callWith_builtin rfl (Calls.evalArgs_plain (Calls.spliced_cons ?_))⟩
  refine Calls.Constant_str (Calls.spliced_cons (Calls.Constant_str (Calls.spliced_nil ?_)))
  exact PySem.SC.replace (by show s1.toks ≠ 0; omega) (by show s1.toks + 1 ≠ 0; omega) (by show s1.toks ≠ s1.toks + 1; omega) hyz hb fun t' k => ⟨.str (Txt.replace x y z), H1, I1.tok k, ⟨t', rfl⟩, q⟩
/-- the first argument gives a token to the others -/
theorem pa_consG {es : List Expr} {ta' : TA} (ha : PEG X e te) (hr : PAT X es ta') (hs : starEach (e :: es) X.env = (false, eval e X.env) :: starEach es X.env := by rfl) : PA X (e :: es) (tCons te ta') := by
  refine ⟨fun pos pins s σ H Q I h => ?_⟩
  rw [hs]
  show wpAny _ _ (spliced ((false, eval e X.env) :: backTo pos (starEach es X.env))) _ _ s
  refine Calls.spliced_cons (thn (ha pins s σ H _ I h) fun v s1 ⟨hk, x, H1, I1, r1, q1⟩ => ?_)
  exact thn (hr pos pins s1 σ H1 _ hk I1 q1) fun us s2 ⟨xs, H2, I2, r2, q2⟩ => ⟨x :: xs, H2, I2, .cons r1 r2, q2⟩
/-- x = e, behind it a token is out -/
theorem pss_setG {rest : List Stmt} {u : TS} {i : Nat} {x : Str} {pos' : Pos} (hN : X.N.Nodup) (hi : X.N[i]? = some x) (hx : Loc X.env.scope x) (he : PEG X e te) (h2 : PSsT X rest u) (hs : swapsWith e (some (.Name x pos')) pos.line X.env = pure false := by rfl) (hf : X.fn x = true ∨ X.env.scope.names.lookup x = some .local := by first | exact .inl rfl | exact .inr rfl | assumption) :
    PSs X (.Assign [.Name x pos'] e pos :: rest) (tSeq (tAsg te (gName i)) u) := by
  refine ⟨fun pins s σ H D I h => ?_⟩
  refine wpAny_execs_cons (wpAny_Assign_Name (thn (he pins s σ H _ I h) fun v s1 ⟨hk, y, H1, I1, r1, q1⟩ => ?_) hs)
  refine wpAny_mono (PySem.wpAny_toks_of hk (store_ok (Q := fun _ s2 => Inv X pins (σ.set i (some y)) H1 s2) I1 hN hi hx r1 (fun _ I2 => I2) hf)) (fun _ s2 q => ?_) fun _ _ z => z.2
  exact h2 pins s2 _ H1 D q.1 q.2 q1
/-- x = e, where a token is out -/
theorem pst_set {i : Nat} {x : Str} {pos' : Pos} (hN : X.N.Nodup) (hi : X.N[i]? = some x) (hx : Loc X.env.scope x) (he : PET X e te) (hs : swapsWith e (some (.Name x pos')) pos.line X.env = pure false := by rfl) (hf : X.fn x = true ∨ X.env.scope.names.lookup x = some .local := by first | exact .inl rfl | exact .inr rfl | assumption) :
    PST X (.Assign [.Name x pos'] e pos) (tAsg te (gName i)) := by
  intro pins s σ H D h0 I h
  refine wpAny_Assign_Name (thn (he pins s σ H _ h0 I h) fun v s1 ⟨y, H1, I1, r1, q1⟩ => ?_) hs
  exact store_ok I1 hN hi hx r1 (fun s2 I2 => ⟨_, H1, I2, q1⟩) hf
end
end Tk
set_option Elab.async false
set_option linter.all false
set_option maxRecDepth 100000
set_option maxHeartbeats 4000000
set_option autoImplicit false
/-! a dict comprehension whose keys want a token; a written dict of the module, key by key -/
namespace Tk
open PySem PySem.Spec PyProof.Rows L2
theorem thnFT {α : Type} {n : Nat} {t : Sem α} {Q Q' : α → Shared → Prop} {M : Model} {A : Around} {E : Value → Shared → Prop} {s : Shared} (hn : n ≤ s.toks) (h : wpAny M A t Q (fun _ _ => False) s) (hQ : ∀ a s, n ≤ s.toks → Q a s → Q' a s) : wpAny M A t Q' E s := wpAny_mono (PySem.wpAny_toks_of hn h) (fun a s z => hQ a s z.1 z.2) fun _ _ z => False.elim z.2
section
variable {X : Cx}
theorem dc_coreT {pins : List (Addr × Obj)} {s : Shared} {σ : L2.St} {H : Hp} {Q : VK} {kx vx tg iter : Expr} {ifs : List Expr} {scope : Scope} {own : List (Str × Nat)} {pos pos' : Pos} {wi : TI} {g : TG} {tt : TT} {tk tv : TE} {use : Option (Value → Sem Unit)} {Qf : Value → Shared → Prop}
    (h0 : 1 ≤ s.toks) (hc : X.calm = true) (hN : X.N.Nodup) (I : Inv X pins σ H s) (hi : PI X tg iter wi) (ok : BlkOk X.N X.env.scope scope own)
    (hg : ∀ (s : Shared) (H : Hp) (C : Addr) (cl : List (Str × Addr)) (fp : List Addr), PG (X.blk s H scope (compEnvC scope cl C X.env) fp) tg g) (ht : ∀ (s : Shared) (H : Hp) (C : Addr) (cl : List (Str × Addr)) (fp : List Addr), PTs (X.blk s H scope (compEnvC scope cl C X.env) fp) ifs tt)
    (hk : ∀ (s : Shared) (H : Hp) (C : Addr) (cl : List (Str × Addr)) (fp : List Addr), PET (X.blk s H scope (compEnvC scope cl C X.env) fp) kx tk)
    (he : ∀ (s : Shared) (H : Hp) (C : Addr) (cl : List (Str × Addr)) (fp : List Addr), PE (X.blk s H scope (compEnvC scope cl C X.env) fp) vx tv) (hs : ∀ x, foldedSetIterable iter X.env x = pure x)
    (h : tDc wi g tt tk tv (own.map (·.2)) σ H Q)
    (hRR : ∀ D C s' m H', Inv X pins σ H' s' → Q (.ref D) H' → s'.heap.Ns C m → FpOk X pins H' C → compPost (model X.prog X.w) X.A X.xe use Qf (.ref D) C (.ok .next) s') :
    wpAny (model X.prog X.w) X.A (comprehension (.DictComp kx vx [⟨tg, iter, ifs, 0⟩] scope pos) scope X.env pos' newDict false (eval iter X.env) use) Qf X.xe s := by
  have hfree : ∀ y ∈ scope.names, y.2 = .free → ∃ c, X.env.cells.lookup y.1 = some c := fun y hy e => by
    rcases ok.free y hy e with k | k
    · exact I.ok.has _ (.inl k)
    · exact I.ok.has _ (.inr k)
  refine wpAny_comprehension_free (use := use) rfl hs (closure_ok hfree) ok.kind (fun y hy e => by rw [ok.uniq y hy, e])
    (wpAny_mono (PySem.wpAny_toks_of h0 (hi.run pins s σ H _ I h)) (fun xv s1 hx => wpAny_mono (PySem.wpAny_toks_of hx.1 hx.2) (fun itv s2 h2 => ?_) fun _ _ z => z.2) fun _ _ z => z.2)
  obtain ⟨k2, it, fp, tn, J, H2, e, I2, T, st2, f2, q⟩ := h2
  subst e
  refine wpAny_newObj_type (newEnv_comp ?_)
  generalize hD : s2.heap.objs.size = D
  have hDn : H2 D = none := I2.hok.fresh (Nat.le_of_eq hD)
  obtain ⟨W, ⟨m0, w0⟩, turn⟩ := q D hDn
  -- the new list
  generalize hs3 : ({ s2 with heap := s2.heap.push { cls := .type "dict", data := .dict #[] } } : Shared) = s3
  have I3 : Inv X pins σ (upd H2 D (.dK [])) s3 := by
    rw [← hs3]
    refine I2.laid (t' := s2.toks) (fun b o e => Heap.get?_push_of_some _ e) (Nat.le_of_eq hD) ?_
    rw [← hD]
    exact dk_empty s2.heap I2.big
  have k3 : 1 ≤ s3.toks := by rw [← hs3]; exact k2
  have h3 : s3.heap = s2.heap.push { cls := .type "dict", data := .dict #[] } := by rw [← hs3]
  have sz : ∀ b ∈ fp, b < s2.heap.objs.size := fun b hb => by
    obtain ⟨o, e, _⟩ := T.obj _ _ st2 b hb
    exact Heap.lt_size e
  have f3 : ∀ b ∈ fp, FpOk X pins (upd H2 D (.dK [])) b ∧ b < s3.heap.objs.size := fun b hb => by
    have hlt := sz b hb
    refine ⟨⟨?_, (f2 b hb).2⟩, by rw [h3, Heap.size_push]; exact Nat.lt_succ_of_lt hlt⟩
    rw [upd_ne (by rw [← hD]; exact Nat.ne_of_lt hlt)]
    exact (f2 b hb).1
  have st3 : tn 0 s3.heap := T.keep _ _ _ st2 fun b _ o e => by rw [h3]; exact Heap.get?_push_of_some _ e
  have I4 := block_start I3 ok hN f3
  have pg := hg s3 (upd H2 D (.dK [])) s3.heap.objs.size (cellsFrom (s3.heap.objs.size + 1) scope.names (cloFrom X.env.cells scope.names [])) fp
  have pt := ht s3 (upd H2 D (.dK [])) s3.heap.objs.size (cellsFrom (s3.heap.objs.size + 1) scope.names (cloFrom X.env.cells scope.names [])) fp
  have pk := hk s3 (upd H2 D (.dK [])) s3.heap.objs.size (cellsFrom (s3.heap.objs.size + 1) scope.names (cloFrom X.env.cells scope.names [])) fp
  have pe := he s3 (upd H2 D (.dK [])) s3.heap.objs.size (cellsFrom (s3.heap.objs.size + 1) scope.names (cloFrom X.env.cells scope.names [])) fp
  show codeAny _ _ (.compStart (.DictComp kx vx [⟨tg, iter, ifs, 0⟩] scope pos) 0 (.ref it) (.ref D) (compEnvC scope (cellsFrom (s3.heap.objs.size + 1) scope.names (cloFrom X.env.cells scope.names [])) s3.heap.objs.size X.env)) (compPost (model X.prog X.w) X.A X.xe use Qf (.ref D) s3.heap.objs.size) { s3 with heap := pushCells (s3.heap.push { cls := .type "dict", data := .dict #[] }) scope.names }
  have nfp : ∀ b ∈ fp, (upd H2 D (.dK [])) b = none := fun b hb => (f3 b hb).1.1
  generalize hce : compEnvC scope (cellsFrom (s3.heap.objs.size + 1) scope.names (cloFrom X.env.cells scope.names [])) s3.heap.objs.size X.env = ce at I4 pg pt pk pe ⊢
  have cL : ce.locals = s3.heap.objs.size := by subst hce; rfl
  generalize hH3 : upd H2 D (.dK []) = H3 at I3 I4 pg pt pk pe w0 nfp f3
  generalize hs4 : ({ s3 with heap := pushCells (s3.heap.push { cls := .type "dict", data := .dict #[] }) scope.names } : Shared) = s4 at I4 ⊢
  have k4 : 1 ≤ s4.toks := by rw [← hs4]; exact k3
  have st4 : tn 0 s4.heap := T.keep _ _ _ st3 fun b _ o e => by rw [← hs4]; exact pushCells_keeps _ _ _ _ (Heap.get?_push_of_some _ e)
  have stat : ∀ {σ' : L2.St} {H' : Hp} {s' : Shared}, Inv (X.blk s3 H3 scope ce fp) [] σ' H' s' → (∀ b ∈ fp, H' b = none) → ∀ b ∈ fp, FpOk (X.blk s3 H3 scope ce fp) [] H' b := fun {σ' H' s'} I' hn b hb =>
    ⟨hn b hb, (I'.ok.exf b hb).1, I'.ok.exfs b hb, .inl hb, fun x c e => (I'.ok.exf b hb).2 x c e, fun p hp => absurd (show p ∈ ([] : List (Addr × Obj)) ++ [] from hp) (by simp)⟩
  have loop : codeAny (model X.prog X.w) X.A (.compLoop (.DictComp kx vx [⟨tg, iter, ifs, 0⟩] scope pos) 0 (.ref it) (.ref D) ce) (compPost (model X.prog X.w) X.A X.xe use Qf (.ref D) s3.heap.objs.size) s4 := by
    refine compLoop_anyD (fun n s' => ∃ i H', Inv (X.blk s3 H3 scope ce fp) [] (wipe σ (own.map (·.2))) H' s' ∧ tn i s'.heap ∧ (∀ b ∈ fp, H' b = none) ∧ W i n H' ∧ 1 ≤ s'.toks) ?_ m0 ⟨0, H3, I4, st4, nfp, w0, k4⟩
    rintro n s5 ⟨i, H5, I5, st5, n5, w5, k5⟩
    rcases turn i n H5 w5 with ⟨stop, qq⟩ | ⟨go, Nx, hNx, step⟩
    · have td := T.done (X.blk s3 H3 scope ce fp) rfl rfl rfl hc i [] s5 _ H5 (fun _ _ => False) I5 (stat I5 n5) st5 stop
      refine thnF td fun r s6 ⟨hr, I6⟩ => ?_
      subst hr
      -- back in the def's context
      have I7 : Inv X pins σ H5 s6 := I3.call' (ch := fp) I6.os I6.base I6.hok I6.bare fun b hb => ⟨(f3 b hb).1.2.2.2.1, (f3 b hb).1.2.1, (f3 b hb).1.2.2.2.2.1, (f3 b hb).1.2.2.2.2.2⟩
      have nC : H5 s3.heap.objs.size = none := by
        have z : H5 ce.locals = none := I6.free
        rw [cL] at z
        exact z
      obtain ⟨m, hn, _⟩ := I6.loc
      have hn : s6.heap.Ns ce.locals m := hn
      rw [cL] at hn
      exact hRR D s3.heap.objs.size s6 m H5 I7 qq hn (I3.fpOk (Nat.le_refl _) nC)
    · have ti := T.item (X.blk s3 H3 scope ce fp) rfl rfl rfl hc i [] s5 _ H5 (fun _ _ => False) I5 (stat I5 n5) st5 go
      refine thnFT k5 ti fun r s6 k6 ⟨u, hr, h6⟩ => ?_
      subst hr
      refine thnFT k6 h6 fun _ s7 k7 ⟨x, H7, I7, r7, y7, st7, n7⟩ => ?_
      have I7' := I7.pinned (stat I7 n7) (T.obj _ _ st7)
      refine thnFT k7 (pg.run _ s7 _ H7 x u _ I7' r7 (step x H7 y7)) fun _ s8 k8 ⟨σ8, H8, I8, hw8, q8⟩ => ?_
      refine thnFT k8 (pt.run _ s8 σ8 H8 _ I8 q8) fun b s9 k9 ⟨H9, I9, q9⟩ => ?_
      -- the turn's end
      have fin : ∀ {s' : Shared} {H' : Hp}, 1 ≤ s'.toks → Inv (X.blk s3 H3 scope ce fp) ([] ++ pinsAt fp s7.heap) σ8 H' s' → Nx H' → ∃ m, m < n ∧ ∃ i H', Inv (X.blk s3 H3 scope ce fp) [] (wipe σ (own.map (·.2))) H' s' ∧ tn i s'.heap ∧ (∀ b ∈ fp, H' b = none) ∧ W i m H' ∧ 1 ≤ s'.toks := fun {s' H'} k' I' nx => by
        obtain ⟨m', hm, w'⟩ := hNx H' nx
        have pin' : ∀ b ∈ fp, ∀ o, s7.heap.get? b = some o → s'.heap.get? b = some o ∧ H' b = none := fun b hb o e =>
          let z := I'.pin (b, o) (List.mem_append_right _ (List.mem_append_right _ (mem_pinsAt hb e)))
          ⟨z.1, z.2.1⟩
        have hl : (wipe σ (own.map (·.2))).length = σ8.length := by rw [← hw8, wipe_length]
        refine ⟨m', hm, i + 1, H', (I'.unpinned (pins := [])).weak hl (fun j v e => ?_), T.keep _ _ _ st7 fun b hb o e => (pin' b hb o e).1, fun b hb => ?_, w', k'⟩
        · rw [← hw8] at e
          exact (wipe_some e).1
        · obtain ⟨o, e, _⟩ := T.obj _ _ st7 b hb
          exact (pin' b hb o e).2
      cases b with
      | false =>
        simp only [Bool.false_eq_true, if_false] at q9 ⊢
        exact fin k9 I9 q9
      | true =>
        simp only [if_true] at q9 ⊢
        refine thnFT k9 (pk _ s9 σ8 H9 _ k9 I9 q9) fun z s10 k10 ⟨yk, H10, I10, r10, q10⟩ => ?_
        refine thnFT k10 (pe.run _ s10 σ8 H10 _ I10 q10) fun z2 s11 k11 ⟨yv, H11, I11, r11, kvs, k, ek, hD11, hz11, nx⟩ => ?_
        subst ek
        exact PySem.wpAny_with_toks k11 (d_dictSet (X := X.blk s3 H3 scope ce fp) I11 hD11 hz11 r10 r11 fun s12 I12 k12 => fin k12 I12 nx)
  exact codeAny_compStart_dict loop (T.self X.A 0 _ _ _ st4 loop)
theorem pet_dc {kx vx tg iter : Expr} {ifs : List Expr} {scope : Scope} {own : List (Str × Nat)} {pos : Pos} {wi : TI} {g : TG} {tt : TT} {tk tv : TE} (hc : X.calm = true) (hN : X.N.Nodup) (hi : PI X tg iter wi) (ok : BlkOk X.N X.env.scope scope own)
    (hg : ∀ (s : Shared) (H : Hp) (C : Addr) (cl : List (Str × Addr)) (fp : List Addr), PG (X.blk s H scope (compEnvC scope cl C X.env) fp) tg g) (ht : ∀ (s : Shared) (H : Hp) (C : Addr) (cl : List (Str × Addr)) (fp : List Addr), PTs (X.blk s H scope (compEnvC scope cl C X.env) fp) ifs tt)
    (hk : ∀ (s : Shared) (H : Hp) (C : Addr) (cl : List (Str × Addr)) (fp : List Addr), PET (X.blk s H scope (compEnvC scope cl C X.env) fp) kx tk)
    (he : ∀ (s : Shared) (H : Hp) (C : Addr) (cl : List (Str × Addr)) (fp : List Addr), PE (X.blk s H scope (compEnvC scope cl C X.env) fp) vx tv) (hs : ∀ x, foldedSetIterable iter X.env x = pure x := by intro _; rfl) :
    PET X (.DictComp kx vx [⟨tg, iter, ifs, 0⟩] scope pos) (tDc wi g tt tk tv (own.map (·.2))) := by
  intro pins s σ H Q h0 I h
  rw [arm_eval_DictComp]
  refine dc_coreT h0 hc hN I hi ok hg ht hk he hs h fun D C s' m H' I' q hn f => ⟨m, hn, fun h'' sb => ?_⟩
  obtain ⟨f0, f1, f2, f3, f4, f5⟩ := f
  exact ⟨.ref D, H', I'.turned (t' := s'.toks) (fun b o hb e => (sb.2 b hb).trans e) f0 f1 f3 f4 f5, rfl, q⟩
/-- y = {..}, where a token is out -/
theorem pst_setDc {i : Nat} {y : Str} {py : Pos} {kx vx tg iter : Expr} {ifs : List Expr} {scope : Scope} {own : List (Str × Nat)} {pos spos : Pos} {wi : TI} {g : TG} {tt : TT} {tk tv : TE} (hc : X.calm = true) (hN : X.N.Nodup) (hy : X.N[i]? = some y) (hyl : X.env.scope.names.lookup y = some .local)
    (hsw : swapsWith (.DictComp kx vx [⟨tg, iter, ifs, 0⟩] scope pos) (some (.Name y py)) spos.line X.env = pure true) (hi : PI X tg iter wi) (ok : BlkOk X.N X.env.scope scope own)
    (hg : ∀ (s : Shared) (H : Hp) (C : Addr) (cl : List (Str × Addr)) (fp : List Addr), PG (X.blk s H scope (compEnvC scope cl C X.env) fp) tg g) (ht : ∀ (s : Shared) (H : Hp) (C : Addr) (cl : List (Str × Addr)) (fp : List Addr), PTs (X.blk s H scope (compEnvC scope cl C X.env) fp) ifs tt)
    (hk : ∀ (s : Shared) (H : Hp) (C : Addr) (cl : List (Str × Addr)) (fp : List Addr), PET (X.blk s H scope (compEnvC scope cl C X.env) fp) kx tk)
    (he : ∀ (s : Shared) (H : Hp) (C : Addr) (cl : List (Str × Addr)) (fp : List Addr), PE (X.blk s H scope (compEnvC scope cl C X.env) fp) vx tv) (hs : ∀ x, foldedSetIterable iter X.env x = pure x := by intro _; rfl) :
    PST X (.Assign [.Name y py] (.DictComp kx vx [⟨tg, iter, ifs, 0⟩] scope pos) spos) (tAsg (tDc wi g tt tk tv (own.map (·.2))) (gName i)) := by
  intro pins s σ H D h0 I h
  rw [exec_Assign_Name_used _ _ _ _ hsw]
  refine wpAny_bind (wpAny_standAt (wpAny_bind ?_))
  show wpAny _ X.A (do let _ ← comprehension (.DictComp kx vx [⟨tg, iter, ifs, 0⟩] scope pos) scope X.env (firstIterPos [⟨tg, iter, ifs, 0⟩] pos) newDict false (eval iter X.env) (some (assign (.Name y py) X.env))) _ _ s
  have h : tDc wi g tt tk tv (own.map (·.2)) σ H (fun x H1 => gName i x σ H1 D.nx) := h
  refine wpAny_bind (thn (dc_coreT (Qf := fun _ s' => SP X pins D .next s') h0 hc hN I hi ok hg ht hk he hs h fun L C s' m H' I' q hn f => ?_) fun _ s' hq => wpAny_pure (wpAny_pure hq))
  show wpAny _ _ (assign (.Name y py) X.env (.ref L)) _ _ _
  refine wpAny_assign_Name (store_ok2 (v := V.ref L) I' hN hy (.inl hyl) rfl (fun s2 I2 ⟨a, sb, ha⟩ => ?_) (.inr hyl))
  obtain ⟨f0, f1, f2, f3, f4, f5⟩ := f
  have haC : C ≠ a := by
    rcases ha with z | z
    · rw [z]; exact f1
    · exact fun e => f4 y a z e.symm
  refine ⟨m, hn.sameBut sb haC, fun h3 sb3 => ?_⟩
  exact ⟨_, H', I2.turned (t' := s2.toks) (fun b o hb e => (sb3.2 b hb).trans e) f0 f1 f3 f4 f5, q⟩
end
/-! ### a written dict of the module -/
structure KKeys (K : PySem.W.Frag) (w : World) (d : Addr) (es : Array DictEntry) (n : Nat) (ks : List Str) : Prop where
  D : KDict K w d es n
  len : es.size = ks.length
  key : ∀ (i : Nat) (z : Str), ks[i]? = some z → ∃ (en : DictEntry) (t : Tok), es[i]? = some en ∧ en.key = Value.str z t
def ItD (ks : List Str) : It := ⟨fun i _ => i < ks.length, fun i H x H' => H' = H ∧ ∃ z, ks[i]? = some z ∧ x = .str z, fun i _ => ks.length ≤ i⟩
section
variable {P : Program} {w : World} {K : PySem.W.Frag} {tg : Expr} {d : Addr} {es : Array DictEntry} {ep : Nat} {ks : List Str}
theorem turn_kd (it : Addr) (N : KKeys K w d es ep ks) : Turn P w K tg (ItD ks) [it] it (fun i h => h.IsKeyIter it d i ks.length ep) where
  mem := by simp
  obj := fun i h st b hb => by
    have e : b = it := by simpa using hb
    subst e
    obtain ⟨oi, e, c, dd⟩ := st
    exact ⟨oi, e, fun v z => by rw [dd] at z; cases z⟩
  keep := fun i h h' st k => st.at fun oi e => k it (by simp) oi e
  item := by
    intro X hP hw hK hc i pins s σ H E I hf st hi
    subst hP hw hK
    obtain ⟨f0, f1, f2, f3, f4, f5⟩ := hf it (by simp)
    have hgd := I.kIn _ _ N.D.at_
    obtain ⟨z, hz⟩ : ∃ z, ks[i]? = some z := ⟨ks[i]'hi, List.getElem?_eq_getElem hi⟩
    obtain ⟨en, t, he, hk⟩ := N.key i z hz
    refine next_key_item st hgd rfl N.len he fun h' st' sb => ?_
    have I1 : Inv X pins σ H { s with heap := h' } := I.turned (t' := s.toks) (fun b ob hb e => (sb.2 b hb).trans e) f0 f1 f3 f4 f5
    obtain ⟨oi, e, c, dd⟩ := id st'
    exact ⟨en.key, rfl, go_of (s := { s with heap := h' }) e c dd (by decide) ⟨.str z, H, I1, ⟨t, hk⟩, ⟨rfl, z, hz, rfl⟩, st', fun b hb => (hf b hb).1⟩⟩
  done := by
    intro X hP hw hK hc i pins s σ H E I hf st hi
    subst hP hw hK
    obtain ⟨f0, f1, f2, f3, f4, f5⟩ := hf it (by simp)
    have hgd := I.kIn _ _ N.D.at_
    exact next_key_end (I.ok.hd hc) st hgd rfl N.len hi fun h' eb => ⟨rfl, I.turned (t' := s.toks) (fun b ob hb e => eb b ob hb e) f0 f1 f3 f4 f5⟩
  self := fun A i s Q E st h => wpAny_pyIter_keyiter st h
end
def iKD (d : Addr) (ks : List Str) (td : TE) : TI := fun σ H R => td σ H fun x H1 => x = .ref d ∧ R (ItD ks) H1
theorem pi_kd {X : Cx} {tg e : Expr} {td : TE} {d : Addr} {es : Array DictEntry} {n : Nat} {ks : List Str} (N : KKeys X.K X.w d es n ks) (he : PE X e td) : PI X tg e (iKD d ks td) := by
  refine ⟨fun pins s σ H R I h => ?_⟩
  refine thn (he.run pins s σ H _ I h) fun u s1 ⟨x, H1, I1, rx, ex, q⟩ => ?_
  subst ex
  obtain rfl : u = Value.ref d := rx
  refine iter_keys N.D.low (I1.kIn _ _ N.D.at_) ⟨rfl, rfl, rfl⟩ rfl (pi_one (tk := s1.toks) I1 _ (turn_kd _ N) ⟨_, Heap.get?_push_size _ rfl, rfl, ?_⟩ q)
  rw [N.len] <;> rfl
/-- {hy z: z for z in ks}, key by key -/
theorem dc_kd {ks : List Str} {g : TG} {tt : TT} {tk tv : TE} {vs : List Nat} {σ : L2.St} {H1 : Hp} {D : Addr} {Qd : Hp → Prop} (Pv : Nat → Hp → Prop) (h0 : Pv 0 (upd H1 D (.dK [])))
    (hs : ∀ i z H, ks[i]? = some z → Pv i H → g (.str z) (wipe σ vs) H fun σ2 H2 => wipe σ2 vs = wipe σ vs ∧ tt σ2 H2 fun b H3 =>
      if b = true then tk σ2 H3 fun y H4 => tv σ2 H4 fun z H5 => ∃ kvs k, y = kV k ∧ H5 D = some (.dK kvs) ∧ kvs.length < sizeLine ∧ Pv (i + 1) (upd H5 D (.dK (putK kvs k z))) else Pv (i + 1) H3) (hd : ∀ H, Pv ks.length H → Qd H) :
    ∃ W : Nat → Nat → Hp → Prop, (∃ m, W 0 m (upd H1 D (.dK []))) ∧ ∀ i m H, W i m H →
      ((ItD ks).stop i H ∧ Qd H) ∨ ((ItD ks).go i H ∧ ∃ Nx : Hp → Prop, (∀ H', Nx H' → ∃ m', m' < m ∧ W (i + 1) m' H') ∧ ∀ x H', (ItD ks).yld i H x H' → g x (wipe σ vs) H' fun σ2 H2 => wipe σ2 vs = wipe σ vs ∧ tt σ2 H2 fun b H3 =>
        if b = true then tk σ2 H3 fun y H4 => tv σ2 H4 fun z H5 => ∃ kvs k, y = kV k ∧ H5 D = some (.dK kvs) ∧ kvs.length < sizeLine ∧ Nx (upd H5 D (.dK (putK kvs k z))) else Nx H3) := by
  refine ⟨fun i m H => m = ks.length - i ∧ i ≤ ks.length ∧ Pv i H, ⟨ks.length, by simp, Nat.zero_le _, h0⟩, ?_⟩
  rintro i m H ⟨rfl, hi, p⟩
  by_cases hlt : i < ks.length
  · refine .inr ⟨hlt, Pv (i + 1), fun H' p' => ⟨ks.length - (i + 1), by omega, rfl, hlt, p'⟩, fun x H' y => ?_⟩
    obtain ⟨rfl, z, hz, rfl⟩ := y
    exact hs i z _ hz p
  · have e : i = ks.length := by omega
    subst e
    exact .inl ⟨Nat.le_refl _, hd H p⟩
end Tk
set_option Elab.async false
set_option linter.all false
set_option maxRecDepth 100000
set_option maxHeartbeats 4000000
set_option autoImplicit false
/-! whole_of, entry_text, entry_of -/
namespace K9
open PySem PySem.Spec PyProof.Rows L2 Cm Tx
def digits : Str := "0123456789"
def digB (c : Nat) : Bool := decide (c ∈ digits.cps.toList)
def figs (z : Str) : Str := Txt.removeprefix z "-"
def figBad (z : Str) : Bool := decide (figs z = "") || (decide (60 < ((figs z).length : Int)) || !((figs z).cps.toList.map digB).all id)
abbrev iS (i : Int) : Str := toString i
def wholeO (z : Str) : Option Int := if figBad z = true then none else match PySem.intText? z with
  | some n => if iS n = z then some n else none
  | none => none
def ovI : Option Int → V
  | none => .non
  | some i => .int i
def WOk (z : Str) : Prop := z.length ≤ 100000 ∧ (figBad z = false → z.length ≤ 640 ∧ ∃ n, PySem.intText? z = some n ∧ n.natAbs.log2 < 1920)
def spWof : Sp := fun vs H Q _ => ∃ z, vs = [.str z] ∧ WOk z ∧ ∀ H', Same H H' → Q (ovI (wholeO z)) H'
theorem scWof : FnScope ["word", "figures", "sign"] ["word"] (defScope sWholeOf) := ⟨rfl, rfl, rfl, by decide +kernel, rfl, by decide +kernel, by decide +kernel⟩
theorem prefix_le2 (z y : Str) : (Txt.removeprefix z y).length ≤ z.length := by
  rw [StrLaws.removeprefix_eq]
  split
  · show (((z.cps.toList.drop _).take _).toArray).size ≤ z.cps.size
    rw [List.size_toArray, List.length_take, List.length_drop, Array.length_toList]
    omega
  · exact Nat.le_refl _
theorem digs_at (z : Str) {i : Nat} {c : Nat} (h : z.cps[i]? = some c) : (z.cps.toList.map digB)[i]? = some (digB c) := by
  rw [List.getElem?_map, Array.getElem?_toList, h]
  rfl
section
variable {P : Program} {w : World} {K : PySem.W.Frag} {mg : Str → Option Value} {base : Heap}
theorem ok_wof {f : Addr} {fd : FuncData} {k : Nat} (F : Fun K "whole_of" "whole_of" sWholeOf f fd) (B : Bi mg) : FnOk P w K mg base CX0 (k + 1) f fd ["word"] spWof := by
  refine F.ok scWof (fun vs H Q E h => ?_) (fun cdv A outer s H vs Q E hr h => ?_)
  · obtain ⟨z, rfl, _⟩ := h
    rfl
  · obtain ⟨z, rfl, ⟨hz, hn⟩, q⟩ := h
    refine ⟨_, pss_cons (ps_set (i := 1) scWof.nd rfl (.inl rfl) (pe_bm PySem.F.plainAttrs_str PySem.F.slot_str_removeprefix PySem.F.type_str_removeprefix mt_removeprefix (pv 0) (pa_cons pe_str pa_nil)))
      (pss_cons (ps_if (PW.pt (pw_or (pt_cmpR op_eq (pv 1) pe_str (nomark _)) (pw_or (pt_cmpR op_gt (pe_callB call_len_str (by rfl) B.len PySem.boot_len (pa_cons (pv 1) pa_nil)) pe_int (nomark _))
        (pw_or1 (pt_not (pt_val (pe_callB (cr_all rfl) (by rfl) B.all (by decide +kernel) (pa_cons (pe_lc (own := [("sign", 2)]) (g := gName 2) (tt := tYes) (by rfl) scWof.nd (pi_str (pv 1)) (blkOk_by (own := [("sign", 2)]) (N := ["word", "figures", "sign"]) (sc := defScope sWholeOf) (by decide +kernel)) (fun _ _ _ _ _ => pg_name (i := 2) scWof.nd rfl (Or.inl rfl)) (fun _ _ _ _ _ => pts_nil)
          (fun _ _ _ _ _ => pe_cmpR op_in_sign (pv 2) pe_str rfl)) pa_nil)))))))) (pss_one (ps_ret pe_non)) pss_nil)
      (pss_one (ps_ret (pe_ifExp (pt_cmpR op_eq (pe_callTy call_str_int (by rfl) B.str (by decide +kernel) (pa_cons (pe_callTy call_int_str (by rfl) B.int (by decide +kernel) (pa_cons (pv 0) pa_nil)) pa_nil)) (pv 0) (nomark _)) (pe_callTy call_int_str (by rfl) B.int (by decide +kernel) (pa_cons (pv 0) pa_nil)) pe_non)))), ?_⟩
    have hz2 : (figs z).length ≤ 100000 := Nat.le_trans (prefix_le2 z _) hz
    refine ⟨_, rfl, rfl, z, _, rfl, rfl, Evl.sz_of hz, ?_⟩
    show _
    refine ⟨_, rfl, rfl, _, rfl, ?_⟩
    by_cases e0 : figs z = ""
    · have eb : wholeO z = none := by
        unfold wholeO figBad
        rw [decide_eq_true e0, Bool.true_or, if_pos rfl]
      have q' := q H (Same.refl H)
      rw [eb] at q'
      rw [decide_eq_true (show V.str (Txt.removeprefix z "-") = V.str "" from congrArg V.str e0)]
      exact iteT (iteT q')
    rw [decide_eq_false (show ¬ V.str (Txt.removeprefix z "-") = V.str "" from fun h => e0 (V.str.inj h))]
    refine iteF ⟨_, rfl, _, rfl, Evl.sz_of hz2, _, _, rfl, rfl, _, rfl, ?_⟩
    by_cases e1 : 60 < ((figs z).length : Int)
    · have eb : wholeO z = none := by
        unfold wholeO figBad
        rw [decide_eq_true e1, Bool.true_or, Bool.or_true, if_pos rfl]
      have q' := q H (Same.refl H)
      rw [eb] at q'
      refine ite2 (fun _ => iteT q') (fun c => absurd (decide_eq_true e1) c)
    refine ite2 (fun c => absurd (of_decide_eq_true c) e1) (fun _ => ?_)
    refine ⟨_, rfl, _, rfl, fun D hD => lc_it walk_str (fun i H' => H' D = some (.lst ((((figs z).cps.toList.map digB).take i).map V.bl)) ∧ Same H H') ⟨upd_same, same_new hD⟩ (fun _ _ _ _ => True.intro) ?_ ?_⟩
    · rintro i x H1 H2 hi ⟨h3, sm⟩ ⟨rfl, c, hc, rfl⟩
      refine ⟨rfl, _, rfl, c, digits, rfl, rfl, _, h3, Evl.sz_lt ?_, ?_, same_mut hD sm⟩
      · rw [List.length_map, List.length_take]
        exact Nat.lt_of_le_of_lt (Nat.min_le_left _ _) (Nat.lt_of_lt_of_le hi hz2)
      · rw [upd_same, take_snoc (digs_at (figs z) hc), List.map_append]
        rfl
    · rintro H1 ⟨h3, sm⟩
      have e : ((figs z).cps.toList.map digB).take (figs z).cps.size = (figs z).cps.toList.map digB := List.take_of_length_le (by rw [List.length_map, Array.length_toList]; exact Nat.le_refl _)
      have h3 : H1 D = some (.lst ((((figs z).cps.toList.map digB).take (figs z).cps.size).map V.bl)) := h3
      rw [e] at h3
      refine ⟨D, _, rfl, SqL.of h3, _, rfl, ?_⟩
      by_cases e2 : ((figs z).cps.toList.map digB).all id = true
      · rw [e2]
        have fb : figBad z = false := by
          unfold figBad
          rw [decide_eq_false e0, decide_eq_false e1, e2]
          rfl
        obtain ⟨hl, n, en, hn2⟩ := hn fb
        have q' := q H1 sm
        unfold wholeO at q'
        rw [fb, if_neg Bool.false_ne_true, en] at q'
        dsimp only at q'
        refine iteF ?_
        refine ⟨_, rfl, z, n, rfl, en, hl, _, rfl, hn2, _, rfl, rfl, _, rfl, ?_⟩
        by_cases e3 : iS n = z
        · rw [if_pos e3] at q'
          refine ite2 (fun _ => ⟨_, rfl, z, n, rfl, en, hl, q'⟩) (fun c => absurd (decide_eq_true (congrArg V.str e3)) c)
        · rw [if_neg e3] at q'
          refine ite2 (fun c => absurd (V.str.inj (of_decide_eq_true c)) e3) (fun _ => q')
      · have e2' : ((figs z).cps.toList.map digB).all id = false := by simpa using e2
        rw [e2']
        have eb : wholeO z = none := by
          unfold wholeO figBad
          rw [e2', Bool.not_false, Bool.or_true, Bool.or_true, if_pos rfl]
        have q' := q H1 sm
        rw [eb] at q'
        exact iteT q'
/-- the word of an entry -/
def entryT : EV → Str
  | .str z => z
  | .int i => iS i
  | .bl b => if b then "yes" else "no"
  | .oth => ""
def EOk : EV → Prop
  | .int i => i.natAbs.log2 < 1920
  | .oth => False
  | _ => True
def spEt : Sp := fun vs H Q _ => ∃ x e, vs = [x] ∧ EvAt H x e ∧ EOk e ∧ Q (.str (entryT e)) H
theorem scEt : FnScope ["entry"] ["entry"] (defScope sEntryText) := ⟨rfl, rfl, rfl, by decide +kernel, rfl, by decide +kernel, by decide +kernel⟩
theorem call_str1 {X : Cx} : CallR X (.type "str") (fun xs H Q => (∃ i, xs = [.int i] ∧ i.natAbs.log2 < 1920 ∧ Q (.str (toString i)) H) ∨ ∃ a, xs = [.str a] ∧ Q (.str a) H) := by
  intro pins s σ H xs us Q I rx h
  rcases h with h | h
  · exact call_str_int pins s σ H xs us Q I rx h
  · exact SkE.call_str_str pins s σ H xs us Q I rx h
theorem ok_et {f : Addr} {fd : FuncData} {k : Nat} (F : Fun K "entry_text" "entry_text" sEntryText f fd) (B : Bi mg) : FnOk P w K mg base CX0 (k + 1) f fd ["entry"] spEt := by
  refine F.ok scEt (fun vs H Q E h => ?_) (fun cdv A outer s H vs Q E hr h => ?_)
  · obtain ⟨x, e, rfl, _⟩ := h
    rfl
  · obtain ⟨x, e, rfl, he, ho, q⟩ := h
    refine ⟨_, pss_cons (ps_if (pt_val (pe_callB call_isi (by rfl) B.isin (by decide +kernel) (pa_cons (pv 0) (pa_cons (pe_bltn (v := .ty "bool") (by rfl) B.bool (by decide +kernel) rfl) pa_nil)))) (pss_one (ps_ret (pe_ifExp (pt_val (pv 0)) pe_str pe_str))) pss_nil)
      (pss_one (ps_ret (pe_callTy call_str1 (by rfl) B.str (by decide +kernel) (pa_cons (pv 0) pa_nil)))), ?_⟩
    cases e with
    | oth => exact ho.elim
    | str z =>
      cases (show x = .str z from he.1)
      exact ⟨_, rfl, _, .ty "bool", _, _, false, rfl, .ty _, .base (.str z), kit_ty (by decide +kernel), _, rfl, iteF ⟨_, rfl, .inr ⟨z, rfl, q⟩⟩⟩
    | int i =>
      cases (show x = .int i from he)
      exact ⟨_, rfl, _, .ty "bool", _, _, false, rfl, .ty _, .base (.int i), kit_ty (by decide +kernel), _, rfl, iteF ⟨_, rfl, .inl ⟨i, rfl, ho, q⟩⟩⟩
    | bl b =>
      cases (show x = .bl b from he)
      refine ⟨_, rfl, _, .ty "bool", _, _, true, rfl, .ty _, .base (.bl b), kit_ty (by decide +kernel), _, rfl, iteT ⟨_, rfl, _, rfl, ?_⟩⟩
      cases b with
      | true => exact iteT q
      | false => exact iteF q
/-- the entry that a word writes -/
def entryE (z sort : Str) : EV := if sort = "space" then (match wholeO z with | some i => .int i | none => .oth) else if sort = "bool" then (if z = "yes" then .bl true else if z = "no" then .bl false else .oth) else .str z
def evV : EV → V
  | .str z => .str z
  | .int i => .int i
  | .bl b => .bl b
  | .oth => .non
theorem evV_at {H : Hp} {e : EV} (h : ∀ z, e = .str z → z.length ≤ 100000) : EvAt H (evV e) e := by
  cases e with
  | str z => exact ⟨rfl, h z rfl⟩
  | int i => rfl
  | bl b => rfl
  | oth => exact .inl rfl
def spEo : Sp := fun vs H Q _ => ∃ z sort, vs = [.str z, .str sort] ∧ (sort = "space" → WOk z) ∧ ∀ H', Same H H' → Q (evV (entryE z sort)) H'
theorem scEo : FnScope ["word", "sort"] ["word", "sort"] (defScope sEntryOf) := ⟨rfl, rfl, rfl, by decide +kernel, rfl, by decide +kernel, by decide +kernel⟩
theorem ok_eo {f : Addr} {fd : FuncData} {k : Nat} (F : Fun K "entry_of" "entry_of" sEntryOf f fd) (W : Cl P w K mg base CX0 1 "whole_of" ["word"] spWof) : FnOk P w K mg base CX0 (k + 2) f fd ["word", "sort"] spEo := by
  refine F.ok scEo (fun vs H Q E h => ?_) (fun cdv A outer s H vs Q E hr h => ?_)
  · obtain ⟨z, sort, rfl, _⟩ := h
    rfl
  · obtain ⟨z, sort, rfl, hw, q⟩ := h
    have hu : (cxOf CX0 P w K mg base ["word", "sort"] "entry_of" (defScope sEntryOf) f cdv A outer s H E).nox.A.units + 1 < cLine := Nat.lt_of_le_of_lt (Nat.add_le_add_left (by decide : 1 ≤ 64) _) hr.units
    refine ⟨_, pss_cons (ps_if (pt_cmpR op_eq (pv 1) pe_str (nomark _)) (pss_one (ps_ret (pe_cl W hr (by omega) (by rfl) pass0 (pa_cons (pv 0) pa_nil)))) pss_nil)
      (pss_cons (ps_if (pt_cmpR op_eq (pv 1) pe_str (nomark _)) (pss_one (ps_ret (pe_dget1 hu (pe_disp (pps_cons pe_str pe_bl (pps_cons pe_str pe_bl pps_nil)) rfl rfl (by simp) (by simp)) (pv 0) ⟨rfl, rfl, rfl, rfl⟩))) pss_nil)
      (pss_one (ps_ret (pv 0)))), ?_⟩
    have dc : ∀ {a b : Str}, a ≠ b → decide (V.str a = V.str b) = false := fun {a b} n => decide_eq_false fun h => n (V.str.inj h)
    refine ⟨_, rfl, rfl, _, rfl, ?_⟩
    by_cases e1 : sort = "space"
    · subst e1
      refine iteT ⟨_, rfl, z, rfl, hw rfl, fun H1 s1 => ?_⟩
      have q' := q H1 s1
      unfold entryE at q'
      rw [if_pos rfl] at q'
      cases ew : wholeO z with
      | none =>
        rw [ew] at q'
        exact q'
      | some i =>
        rw [ew] at q'
        exact q'
    rw [dc e1]
    refine iteF ⟨_, rfl, rfl, _, rfl, ?_⟩
    by_cases e2 : sort = "bool"
    · subst e2
      refine iteT fun p hp => ?_
      refine ⟨upd_same, [(.inr "yes", .bl true), (.inr "no", .bl false)], rfl, by decide, p, rfl, .inl ⟨_, .inl upd_same⟩, _, rfl, _, DGet.k (k := .inr z) upd_same, ?_⟩
      have q' := q _ (same_mut hp (same_new (o := .dK []) hp) : Same H (upd (upd H p (.dK [])) p (.dK (mergeK [] [(.inr "yes", .bl true), (.inr "no", .bl false)]))))
      unfold entryE at q'
      rw [if_neg e1, if_pos rfl] at q'
      have em : mergeK ([] : List (Key × V)) [(.inr "yes", .bl true), (.inr "no", .bl false)] = [(.inr "yes", .bl true), (.inr "no", .bl false)] := by decide +kernel
      have ev : (valV (mergeK ([] : List (Key × V)) [(.inr "yes", .bl true), (.inr "no", .bl false)]) (.inr z)).getD .non = evV (if z = "yes" then .bl true else if z = "no" then .bl false else .oth) := by
        rw [em]
        by_cases h1 : z = "yes"
        · subst h1
          rfl
        · rw [if_neg h1, valV_neg (show ¬ (Sum.inr (Str.ofString "yes") : Key) = .inr z from fun h => h1 (Sum.inr.inj h).symm)]
          by_cases h2 : z = "no"
          · subst h2
            rfl
          · rw [if_neg h2, valV_neg (show ¬ (Sum.inr (Str.ofString "no") : Key) = .inr z from fun h => h2 (Sum.inr.inj h).symm)]
            rfl
      rw [ev]
      exact q'
    rw [dc e2]
    have q' := q H (Same.refl H)
    unfold entryE at q'
    rw [if_neg e1, if_neg e2] at q'
    exact iteF ⟨_, rfl, q'⟩
end
end K9
set_option autoImplicit true
set_option Elab.async false
set_option linter.all false
set_option maxRecDepth 100000
set_option maxHeartbeats 2000000
/-! zip of a list and a tuple -/
namespace Zm
open PySem RZ
open PySem.Sem (wp)
section
variable {prog : Program} {w : World} {A : Around} {E : Value → Shared → Prop} {s : Shared}
theorem zipM_next_item {z TI TO i1 i2 l1 l2 : Addr} {k1 k2 : Nat} {xs ys : Array Value} {x y a b : Value} {Q : Value → Shared → Prop} (D : ZipApart z TI TO i1 i2 l1 l2)
    (hz : IsZip s.heap z TI TO .none) (hTI : IsPair s.heap TI (.ref i1) (.ref i2)) (hTO : IsPair s.heap TO a b)
    (h1 : s.heap.IsListIter i1 l1 k1) (h2 : s.heap.IsTupleIter i2 l2 k2) (hl1 : s.heap.IsList l1 xs) (hl2 : s.heap.IsTuple l2 ys) (hx : xs[k1]? = some x) (hy : ys[k2]? = some y)
    (hQ : ∀ h', IsZip h' z TI TO (rawInt s.heap.objs.size) → IsPair h' TO x y → h'.IsListIter i1 l1 (k1 + 1) → h'.IsTupleIter i2 l2 (k2 + 1) → IsPair h' s.heap.objs.size x y → h'.objs.size = s.heap.objs.size + 1 →
      (∀ c o, c ≠ z → c ≠ TO → c ≠ i1 → c ≠ i2 → s.heap.get? c = some o → h'.get? c = some o) → Q (.ref s.heap.objs.size) { s with heap := h' }) :
    wpAny (model prog w) A (Builtin.«zip.__next__» ⟨[.ref z], []⟩) (fun fin s' => ∃ v, fin = .done (.ret v) ∧ Q v s') E s := by
  show wpAny _ _ (field (.ref z) 2 >>= _) _ _ _
  refine wpAny_bind (wpAny_field hz rfl (x := .bool false) rfl ?_)
  show wpAny _ _ (field (.ref z) 3 >>= _) _ _ _
  refine wpAny_bind (wpAny_field hz rfl (x := .ref TI) rfl ?_)
  refine wpAny_bind (wpAny_seqItems hTI rfl ?_)
  show wpAny _ _ (Builtin.SmallTypes.ownedTupleIsFree (.ref z) >>= _) _ _ _
  refine wpAny_bind ?_
  unfold Builtin.SmallTypes.ownedTupleIsFree
  refine wpAny_bind (wpAny_field hz rfl (x := .none) rfl (wpAny_pure ?_))
  simp only [if_true]
  refine wpAny_bind (wpAny_rule ?_)
  refine wpAny_bind (wpAny_field hz rfl (x := .ref TO) rfl ?_)
  refine wpAny_bind (wpAny_setField_rec hz (by simp) fun h₁ hz₁ hs₁ => ?_)
  replace hz₁ : IsZip h₁ z TI TO .ellipsis := hz₁
  refine wpAny_bind ?_
  simp only [List.zipIdx_cons, List.zipIdx_nil, List.forIn_cons, List.forIn_nil]

  refine wpAny_bind (wpAny_bind (wpAny_onRaise ?_))
  show wpAny _ _ (Builtin.SmallTypes.nextOf (.ref i1) >>= _) _ _ _
  refine wpAny_bind (wpAny_nextOf_list_item (h1.extBut hs₁.extBut D.i1z) (hl1.extBut hs₁.extBut D.l1z) hx fun h₂ h1₂ hs₂ => wpAny_pure ?_)
  have hTO₂ : IsPair h₂ TO a b := hs₂.extBut _ _ D.TOi1 (hs₁.extBut _ _ D.TOz hTO)
  refine wpAny_bind (wpAny_seqItems hTO₂ rfl ?_)
  refine wpAny_bind (wpAny_updateSeq_pair hTO₂ fun h₃ hTO₃ hs₃ => ?_)
  replace hTO₃ : IsPair h₃ TO x b := hTO₃
  refine wpAny_bind (wpAny_letGo (wpAny_pure ?_))

  refine wpAny_bind (wpAny_bind (wpAny_onRaise ?_))
  show wpAny _ _ (Builtin.SmallTypes.nextOf (.ref i2) >>= _) _ _ _
  refine wpAny_bind (nextOf_tuple_item (((h2.extBut hs₁.extBut D.i2z).extBut hs₂.extBut D.i12.symm).extBut hs₃.extBut D.TOi2.symm)
    (((hl2.extBut hs₁.extBut D.l2z).extBut hs₂.extBut D.l2i1).extBut hs₃.extBut D.l2TO) hy fun h₄ h2₄ hs₄ => wpAny_pure ?_)
  have hTO₄ : IsPair h₄ TO x b := hs₄.extBut _ _ D.TOi2 hTO₃
  refine wpAny_bind (wpAny_seqItems hTO₄ rfl ?_)
  refine wpAny_bind (wpAny_updateSeq_pair hTO₄ fun h₅ hTO₅ hs₅ => ?_)
  replace hTO₅ : IsPair h₅ TO x y := hTO₅
  refine wpAny_bind (wpAny_letGo (wpAny_pure (wpAny_pure ?_)))

  refine wpAny_bind (wpAny_seqItems hTO₅ rfl ?_)
  refine wpAny_bind (wpAny_newTuple ?_)
  have hsz : h₅.objs.size = s.heap.objs.size := by rw [hs₅.1, hs₄.1, hs₃.1, hs₂.1, hs₁.1]
  have hz₅ : IsZip h₅ z TI TO .ellipsis := hs₅.extBut _ _ D.TOz.symm (hs₄.extBut _ _ D.i2z.symm (hs₃.extBut _ _ D.TOz.symm (hs₂.extBut _ _ D.i1z.symm hz₁)))
  have hk₅ : ∀ c o, c ≠ z → c ≠ TO → c ≠ i1 → c ≠ i2 → s.heap.get? c = some o → h₅.get? c = some o := fun c o c1 c2 c3 c4 e =>
    hs₅.extBut _ _ c2 (hs₄.extBut _ _ c4 (hs₃.extBut _ _ c2 (hs₂.extBut _ _ c3 (hs₁.extBut _ _ c1 e))))
  have h1₅ : h₅.IsListIter i1 l1 (k1 + 1) := ((h1₂.extBut hs₃.extBut D.TOi1.symm).extBut hs₄.extBut D.i12).extBut hs₅.extBut D.TOi1.symm
  have h2₅ : h₅.IsTupleIter i2 l2 (k2 + 1) := h2₄.extBut hs₅.extBut D.TOi2.symm
  have hzlt : z < h₅.objs.size := Heap.lt_size hz₅
  have hTOlt : TO < h₅.objs.size := Heap.lt_size hTO₅
  have hi1lt : i1 < h₅.objs.size := by obtain ⟨_, e, _⟩ := h1₅; exact Heap.lt_size e
  have hi2lt : i2 < h₅.objs.size := by obtain ⟨_, e, _⟩ := h2₅; exact Heap.lt_size e
  show wpAny _ _ (Builtin.SmallTypes.ownedTupleHandOut (.ref z) (.ref h₅.objs.size) >>= _) _ _ _
  refine wpAny_bind ?_
  unfold Builtin.SmallTypes.ownedTupleHandOut
  have hz₆ : IsZip (h₅.push { cls := .type "tuple", data := .seq #[x, y] }) z TI TO .ellipsis := Heap.get?_push_of_some _ hz₅
  refine wpAny_bind (wpAny_setField_rec hz₆ (by simp) fun h₇ hz₇ hs₇ => ?_)
  replace hz₇ : IsZip h₇ z TI TO (rawInt h₅.objs.size) := hz₇
  refine wpAny_setField_rec hz₇ (by simp) fun h₈ hz₈ hs₈ => ?_
  replace hz₈ : IsZip h₈ z TI TO (rawInt h₅.objs.size) := hz₈
  have up : ∀ c o, c ≠ z → h₅.get? c = some o → h₈.get? c = some o := fun c o c1 e => hs₈.extBut _ _ c1 (hs₇.extBut _ _ c1 (Heap.get?_push_of_some _ e))
  have hT₈ : IsPair h₈ h₅.objs.size x y := hs₈.extBut _ _ (Nat.ne_of_gt hzlt) (hs₇.extBut _ _ (Nat.ne_of_gt hzlt) (Heap.get?_push_size _ rfl))
  have hz8 : h₈.objs.size = h₅.objs.size + 1 := by rw [hs₈.1, hs₇.1, Heap.size_push]
  rw [hsz] at hz₈ hT₈ hz8
  refine wpAny_pure ⟨_, rfl, ?_⟩
  show Q (.ref h₅.objs.size) _
  rw [hsz]
  exact hQ h₈ hz₈ (up _ _ D.TOz hTO₅) (h1₅.at fun o e => up _ o D.i1z e) (h2₅.at fun o e => up _ o D.i2z e) hT₈ hz8 fun c o c1 c2 c3 c4 e => up c o c1 (hk₅ c o c1 c2 c3 c4 e)

theorem zipM_next_end {z TI TO i1 i2 l1 l2 : Addr} {k1 k2 : Nat} {xs ys : Array Value} {a b : Value} {Q : Fin → Shared → Prop} (hh : A.handled = none) (D : ZipApart z TI TO i1 i2 l1 l2)
    (hz : IsZip s.heap z TI TO .none) (hTI : IsPair s.heap TI (.ref i1) (.ref i2)) (hTO : IsPair s.heap TO a b)
    (h1 : s.heap.IsListIter i1 l1 k1) (h2 : s.heap.IsTupleIter i2 l2 k2) (hl1 : s.heap.IsList l1 xs) (hl2 : s.heap.IsTuple l2 ys) (hend : xs[k1]? = none ∨ ys[k2]? = none)
    (hE : ∀ h' e, (∀ c o, c ≠ z → c ≠ TO → c ≠ i1 → c ≠ i2 → s.heap.get? c = some o → h'.get? c = some o) → (∃ o, h'.get? e = some o ∧ o.cls = .type "StopIteration") → E (.ref e) { s with heap := h' }) :
    wpAny (model prog w) A (Builtin.«zip.__next__» ⟨[.ref z], []⟩) Q E s := by
  show wpAny _ _ (field (.ref z) 2 >>= _) _ _ _
  refine wpAny_bind (wpAny_field hz rfl (x := .bool false) rfl ?_)
  show wpAny _ _ (field (.ref z) 3 >>= _) _ _ _
  refine wpAny_bind (wpAny_field hz rfl (x := .ref TI) rfl ?_)
  refine wpAny_bind (wpAny_seqItems hTI rfl ?_)
  show wpAny _ _ (Builtin.SmallTypes.ownedTupleIsFree (.ref z) >>= _) _ _ _
  refine wpAny_bind ?_
  unfold Builtin.SmallTypes.ownedTupleIsFree
  refine wpAny_bind (wpAny_field hz rfl (x := .none) rfl (wpAny_pure ?_))
  simp only [if_true]
  refine wpAny_bind (wpAny_rule ?_)
  refine wpAny_bind (wpAny_field hz rfl (x := .ref TO) rfl ?_)
  refine wpAny_bind (wpAny_setField_rec hz (by simp) fun h₁ hz₁ hs₁ => ?_)
  replace hz₁ : IsZip h₁ z TI TO .ellipsis := hz₁
  refine wpAny_bind ?_
  simp only [List.zipIdx_cons, List.zipIdx_nil, List.forIn_cons, List.forIn_nil]
  refine wpAny_bind (wpAny_bind (wpAny_onRaise ?_))
  show wpAny _ _ (Builtin.SmallTypes.nextOf (.ref i1) >>= _) _ _ _
  cases hx : xs[k1]? with
  | none =>
    refine wpAny_bind (wpAny_nextOf_list_end hh (h1.extBut hs₁.extBut D.i1z) (hl1.extBut hs₁.extBut D.l1z) hx fun h₂ e hs₂ he => ?_)
    obtain ⟨oe, hoe, hce⟩ := he
    have hz₂ : IsZip h₂ z TI TO .ellipsis := hs₂ _ _ D.i1z.symm hz₁
    have hez : e ≠ z := fun x => by subst x; rw [hz₂] at hoe; cases hoe; simp at hce
    refine wpAny_setField_rec hz₂ (by simp) fun h₃ _ hs₃ => hE h₃ e (fun c o c1 _ c3 _ x => hs₃.extBut _ _ c1 (hs₂ _ _ c3 (hs₁.extBut _ _ c1 x))) ⟨oe, hs₃.extBut _ _ hez hoe, hce⟩
  | some x =>
    have hy : ys[k2]? = none := by rcases hend with h | h; rw [hx] at h; cases h; exact h
    refine wpAny_bind (wpAny_nextOf_list_item (h1.extBut hs₁.extBut D.i1z) (hl1.extBut hs₁.extBut D.l1z) hx fun h₂ h1₂ hs₂ => wpAny_pure ?_)
    have hTO₂ : IsPair h₂ TO a b := hs₂.extBut _ _ D.TOi1 (hs₁.extBut _ _ D.TOz hTO)
    refine wpAny_bind (wpAny_seqItems hTO₂ rfl ?_)
    refine wpAny_bind (wpAny_updateSeq_pair hTO₂ fun h₃ hTO₃ hs₃ => ?_)
    refine wpAny_bind (wpAny_letGo (wpAny_pure ?_))
    refine wpAny_bind (wpAny_bind (wpAny_onRaise ?_))
    show wpAny _ _ (Builtin.SmallTypes.nextOf (.ref i2) >>= _) _ _ _
    refine wpAny_bind (nextOf_tuple_end hh (((h2.extBut hs₁.extBut D.i2z).extBut hs₂.extBut D.i12.symm).extBut hs₃.extBut D.TOi2.symm)
      (((hl2.extBut hs₁.extBut D.l2z).extBut hs₂.extBut D.l2i1).extBut hs₃.extBut D.l2TO) hy fun h₄ e hs₄ he => ?_)
    obtain ⟨oe, hoe, hce⟩ := he
    have hz₄ : IsZip h₄ z TI TO .ellipsis := hs₄ _ _ D.i2z.symm (hs₃.extBut _ _ D.TOz.symm (hs₂.extBut _ _ D.i1z.symm hz₁))
    have hez : e ≠ z := fun x => by subst x; rw [hz₄] at hoe; cases hoe; simp at hce
    refine wpAny_setField_rec hz₄ (by simp) fun h₅ _ hs₅ => hE h₅ e (fun c o c1 c2 c3 c4 x => hs₅.extBut _ _ c1 (hs₄ _ _ c4 (hs₃.extBut _ _ c2 (hs₂.extBut _ _ c3 (hs₁.extBut _ _ c1 x))))) ⟨oe, hs₅.extBut _ _ hez hoe, hce⟩

theorem pyNext_zipM_item {z TI TO i1 i2 l1 l2 : Addr} {k1 k2 : Nat} {xs ys : Array Value} {x y a b : Value} {Q : Option Value → Shared → Prop} (D : ZipApart z TI TO i1 i2 l1 l2)
    (hz : IsZip s.heap z TI TO .none) (hTI : IsPair s.heap TI (.ref i1) (.ref i2)) (hTO : IsPair s.heap TO a b)
    (h1 : s.heap.IsListIter i1 l1 k1) (h2 : s.heap.IsTupleIter i2 l2 k2) (hl1 : s.heap.IsList l1 xs) (hl2 : s.heap.IsTuple l2 ys) (hx : xs[k1]? = some x) (hy : ys[k2]? = some y)
    (hQ : ∀ h', IsZip h' z TI TO (rawInt s.heap.objs.size) → IsPair h' TO x y → h'.IsListIter i1 l1 (k1 + 1) → h'.IsTupleIter i2 l2 (k2 + 1) → IsPair h' s.heap.objs.size x y → h'.objs.size = s.heap.objs.size + 1 →
      (∀ c o, c ≠ z → c ≠ TO → c ≠ i1 → c ≠ i2 → s.heap.get? c = some o → h'.get? c = some o) → Q (some (.ref s.heap.objs.size)) { s with heap := h' }) :
    wpAny (model prog w) A (pyNext (.ref z)) Q E s := by
  have hT : s.TypeIs (.ref z) "zip" := ⟨_, hz, rfl⟩
  unfold pyNext
  exact wpAny_bind (wpAny_attempt (wpAny_callSpecial?_slot (name := Str.ofString "__next__") hT F.slot_zip_next
    (wpAny_call_entry F.slot_zip_next hT F.entry_zip_next
      (zipM_next_item D hz hTI hTO h1 h2 hl1 hl2 hx hy fun h' a1 a2 a3 a4 a5 a6 a7 => wpAny_pure (hQ h' a1 a2 a3 a4 a5 a6 a7)) (F.args_zip_next_1 _))))

theorem pyNext_zipM_end {z TI TO i1 i2 l1 l2 : Addr} {k1 k2 : Nat} {xs ys : Array Value} {a b : Value} {Q : Option Value → Shared → Prop} (hh : A.handled = none) (D : ZipApart z TI TO i1 i2 l1 l2)
    (hz : IsZip s.heap z TI TO .none) (hTI : IsPair s.heap TI (.ref i1) (.ref i2)) (hTO : IsPair s.heap TO a b)
    (h1 : s.heap.IsListIter i1 l1 k1) (h2 : s.heap.IsTupleIter i2 l2 k2) (hl1 : s.heap.IsList l1 xs) (hl2 : s.heap.IsTuple l2 ys) (hend : xs[k1]? = none ∨ ys[k2]? = none)
    (hQ : ∀ h', (∀ c o, c ≠ z → c ≠ TO → c ≠ i1 → c ≠ i2 → s.heap.get? c = some o → h'.get? c = some o) → Q none { s with heap := h' }) : wpAny (model prog w) A (pyNext (.ref z)) Q E s := by
  have hT : s.TypeIs (.ref z) "zip" := ⟨_, hz, rfl⟩
  unfold pyNext
  refine wpAny_bind (wpAny_attempt (wpAny_callSpecial?_slot (name := Str.ofString "__next__") hT F.slot_zip_next
    (wpAny_call_entry F.slot_zip_next hT F.entry_zip_next (zipM_next_end hh D hz hTI hTO h1 h2 hl1 hl2 hend fun h' e hk he => ?_) (F.args_zip_next_1 _))))
  obtain ⟨o, ho, hc⟩ := he
  refine wpAny_bind (wpAny_isInstance (T := "StopIteration") (b := true) ⟨o, ho, hc⟩ isSubtype_stop ?_)
  exact wpAny_pure (hQ _ hk)
end

abbrev zipMH1 (h : Heap) (l1 : Addr) : Heap := h.push { cls := .type "list_iterator", data := .fields #[.ref l1, .int 0 0] }
abbrev zipMH2 (h : Heap) (l1 l2 : Addr) : Heap := (zipMH1 h l1).push { cls := .type "tuple_iterator", data := .fields #[.ref l2, .int 0 0] }
abbrev zipMH3 (h : Heap) (l1 l2 : Addr) : Heap := (zipMH2 h l1 l2).push { cls := .type "tuple", data := .seq #[.ref h.objs.size, .ref (zipMH1 h l1).objs.size] }
abbrev zipMH4 (h : Heap) (l1 l2 : Addr) : Heap := (zipMH3 h l1 l2).push { cls := .type "tuple", data := .seq #[.none, .none] }
abbrev zipMH5 (h : Heap) (l1 l2 : Addr) : Heap := (zipMH4 h l1 l2).push { cls := .type "zip", data := .fields #[.none, .bool false, .bool false, .ref (zipMH2 h l1 l2).objs.size, .ref (zipMH3 h l1 l2).objs.size] }
theorem meets_zipM_new (l1 l2 : Addr) (xs ys : Array Value) :
    Meets (Builtin.«zip.__new__» ⟨[.type "zip", .ref l1, .ref l2], []⟩) (fun _ R s => s.heap.IsList l1 xs ∧ s.heap.IsTuple l2 ys ∧
      R (.ok (.ret (.ref (zipMH4 s.heap l1 l2).objs.size))) { s with heap := zipMH5 s.heap l1 l2 }) :=
  .of_wp fun prog w A R s h => by
    obtain ⟨hp, g, d, tk, os⟩ := s; obtain ⟨hl1, hl2, h⟩ := h
    have hsub := sub_zip
    have hL1 : Heap.IsList (Shared.heap ⟨hp, g, d, tk, os⟩) l1 xs := hl1
    have hL2 : Heap.IsTuple (Shared.heap ⟨hp.push { cls := .type "list_iterator", data := .fields #[.ref l1, .int 0 0] }, g, d, tk, os⟩) l2 ys := Heap.IsTuple.push hl2 _
    wp_walk using wpAny_pyIter_list hL1, wpAny_pyIter_tuple hL2
    exact ⟨_, rfl, h⟩

section
variable {prog : Program} {w : World} {A : Around} {E : Value → Shared → Prop} {s : Shared}

theorem call_zipM {l1 l2 : Addr} {xs ys : Array Value} {Q : Value → Shared → Prop} (hl1 : s.heap.IsList l1 xs) (hl2 : s.heap.IsTuple l2 ys)
    (h : ∀ h', IsZip h' (s.heap.objs.size + 4) (s.heap.objs.size + 2) (s.heap.objs.size + 3) .none → IsPair h' (s.heap.objs.size + 2) (.ref s.heap.objs.size) (.ref (s.heap.objs.size + 1)) →
      IsPair h' (s.heap.objs.size + 3) .none .none → h'.IsListIter s.heap.objs.size l1 0 → h'.IsTupleIter (s.heap.objs.size + 1) l2 0 → h'.objs.size = s.heap.objs.size + 5 →
      (∀ c o, s.heap.get? c = some o → h'.get? c = some o) → Q (.ref (s.heap.objs.size + 4)) { s with heap := h' }) :
    wpAny (model prog w) A (call (.type "zip") [.ref l1, .ref l2]) Q E s := by
  refine callType_new F.called_zip (by decide) (F.typeCall_zip_2 _ _) (F.newCall_zip_2 _ _) (fun obj => F.args_object_init_3 obj _ _) F.entry_zip_new
    (meets_zipM_new l1 l2 xs ys) ⟨hl1, hl2, ?_⟩
  have z1 : (zipMH1 s.heap l1).objs.size = s.heap.objs.size + 1 := Heap.size_push ..
  have z2 : (zipMH2 s.heap l1 l2).objs.size = s.heap.objs.size + 2 := by rw [Heap.size_push, z1]
  have z3 : (zipMH3 s.heap l1 l2).objs.size = s.heap.objs.size + 3 := by rw [Heap.size_push, z2]
  have z4 : (zipMH4 s.heap l1 l2).objs.size = s.heap.objs.size + 4 := by rw [Heap.size_push, z3]
  have z5 : (zipMH5 s.heap l1 l2).objs.size = s.heap.objs.size + 5 := by rw [Heap.size_push, z4]
  have g5 : (zipMH5 s.heap l1 l2).get? (zipMH4 s.heap l1 l2).objs.size = some _ := Heap.get?_push_size _ rfl
  have g4 : (zipMH5 s.heap l1 l2).get? (zipMH3 s.heap l1 l2).objs.size = some _ := Heap.get?_push_of_some _ (Heap.get?_push_size _ rfl)
  have g3 : (zipMH5 s.heap l1 l2).get? (zipMH2 s.heap l1 l2).objs.size = some _ := Heap.get?_push_of_some _ (Heap.get?_push_of_some _ (Heap.get?_push_size _ rfl))
  have g2 : (zipMH5 s.heap l1 l2).get? (zipMH1 s.heap l1).objs.size = some _ := Heap.get?_push_of_some _ (Heap.get?_push_of_some _ (Heap.get?_push_of_some _ (Heap.get?_push_size _ rfl)))
  have g1 : (zipMH5 s.heap l1 l2).get? s.heap.objs.size = some _ := Heap.get?_push_of_some _ (Heap.get?_push_of_some _ (Heap.get?_push_of_some _ (Heap.get?_push_of_some _ (Heap.get?_push_size _ rfl))))
  show _ ∧ _
  rw [z2, z3, z4] at g5
  rw [z1, z2] at g3
  rw [z3] at g4
  rw [z1] at g2
  rw [z4]
  exact ⟨⟨_, g5, rfl⟩, h _ g5 g3 g4 ⟨_, g1, rfl, rfl⟩ ⟨_, g2, rfl, rfl⟩ z5 fun c o x =>
    Heap.get?_push_of_some _ (Heap.get?_push_of_some _ (Heap.get?_push_of_some _ (Heap.get?_push_of_some _ (Heap.get?_push_of_some _ x))))⟩
end
end Zm
namespace Zm
open PySem PySem.Spec PyProof.Rows L2 RZ
def ItzM (K : PySem.W.Frag) (a b : Addr) : It :=
  ⟨fun i H => ∃ (xs ys : List V) (x y : V), SqL K H a xs ∧ SqT K H b ys ∧ xs[i]? = some x ∧ ys[i]? = some y,
    fun i H v H' => ∃ T x y, v = .ref T ∧ H T = none ∧ H' = upd H T (.tup [x, y]) ∧ (∀ xs, SqL K H a xs → xs[i]? = some x) ∧ ∀ ys, SqT K H b ys → ys[i]? = some y,
    fun i H => ∃ xs ys : List V, SqL K H a xs ∧ SqT K H b ys ∧ (xs.length ≤ i ∨ ys.length ≤ i)⟩
theorem turn_zipM {P : Program} {w : World} {K : PySem.W.Frag} {elts : List Expr} {kk : Nat} {tpos : Pos} {a b z TI TO i1 i2 : Addr} (D : ZipApart z TI TO i1 i2 a b) :
    Turn P w K (.Tuple elts kk tpos) (ItzM K a b) [z, TI, TO, i1, i2] z (fun i h => IsZip h z TI TO .none ∧ IsPair h TI (.ref i1) (.ref i2) ∧ (∃ x y, IsPair h TO x y) ∧ h.IsListIter i1 a i ∧ h.IsTupleIter i2 b i) where
  mem := by simp
  obj := fun i h st c hc => by
    obtain ⟨hz, hTI, ⟨x, y, hTO⟩, ⟨o1, e1, _, d1⟩, ⟨o2, e2, _, d2⟩⟩ := st
    have e' : c = z ∨ c = TI ∨ c = TO ∨ c = i1 ∨ c = i2 := by simpa using hc
    rcases e' with q | q | q | q | q
    · rw [q]; exact ⟨_, hz, fun v q => nomatch q⟩
    · rw [q]; exact ⟨_, hTI, fun v q => nomatch q⟩
    · rw [q]; exact ⟨_, hTO, fun v q => nomatch q⟩
    · rw [q]; exact ⟨o1, e1, fun v q => by rw [d1] at q; cases q⟩
    · rw [q]; exact ⟨o2, e2, fun v q => by rw [d2] at q; cases q⟩
  keep := fun i h h' st k => by
    obtain ⟨hz, hTI, ⟨x, y, hTO⟩, h1, h2⟩ := st
    exact ⟨k z (by simp) _ hz, k TI (by simp) _ hTI, ⟨x, y, k TO (by simp) _ hTO⟩, h1.at fun o q => k i1 (by simp) o q, h2.at fun o q => k i2 (by simp) o q⟩
  item := by
    intro X hP hw hK hc i pins s σ H E I hf st hg
    subst hP hw hK
    obtain ⟨hz, hTI, ⟨x0, y0, hTO⟩, h1, h2⟩ := st
    obtain ⟨xs, ys, x, y, hqx, hqy, hx, hy⟩ := hg
    obtain ⟨its, rv, p, _⟩ := I.list hqx
    obtain ⟨its2, rv2, p2, _⟩ := I.tuple hqy
    obtain ⟨u, hu, ru⟩ := rv.get hx
    obtain ⟨u2, hu2, ru2⟩ := rv2.get hy
    have hzl : z < s.heap.objs.size := Heap.lt_size hz
    refine pyNext_zipM_item D hz hTI hTO h1 h2 p.isList p2 (x := u) (y := u2) (by simpa using hu) (by simpa using hu2) fun h' z' TO' h1' h2' hT hsz hk => ?_
    refine ⟨_, rfl, wpAny_letOwnedTupleGo_zip (s := { s with heap := h' }) z' fun h'' z'' sb => ?_⟩
    have hT2 : h''.get? s.heap.objs.size = some { cls := .type "tuple", data := .seq #[u, u2] } := (sb.2 _ (Nat.ne_of_gt hzl)).trans hT
    have new : ObjOk X.prog X.w (upd H s.heap.objs.size (.tup [x, y])) h'' s.heap.objs.size (.tup [x, y]) :=
      ⟨by show 2 ≤ sizeLine; decide, [u, u2], .cons ru (.cons ru2 .nil), ⟨_, hT2, rfl, _, rfl⟩⟩
    have I1 : Inv X pins σ (upd H s.heap.objs.size (.tup [x, y])) { s with heap := h'' } :=
      I.turnedNew (t' := s.toks) (ch := [z, TI, TO, i1, i2]) (fun c o hb q => (sb.2 c (fun q' => hb (by simp [q']))).trans (hk c o (fun q' => hb (by simp [q'])) (fun q' => hb (by simp [q'])) (fun q' => hb (by simp [q'])) (fun q' => hb (by simp [q'])) q)) hf (Nat.le_refl _) new
    refine ⟨.ref s.heap.objs.size, _, I1, rfl, ⟨_, x, y, rfl, I.hok.fresh (Nat.le_refl _), rfl, fun l hl => by rw [I.list_inj hl hqx]; exact hx, fun l hl => by rw [I.tuple_inj hl hqy]; exact hy⟩, ⟨z'', ?_, ⟨u, u2, ?_⟩, ?_, ?_⟩, fun c hcm => ?_⟩
    · exact (sb.2 _ D.TIz).trans (hk _ _ D.TIz D.TITO D.TIi1 D.TIi2 hTI)
    · exact (sb.2 _ D.TOz).trans TO'
    · exact h1'.at fun o q => (sb.2 _ D.i1z).trans q
    · exact h2'.at fun o q => (sb.2 _ D.i2z).trans q
    · have hlt : c < s.heap.objs.size := by
        have e' : c = z ∨ c = TI ∨ c = TO ∨ c = i1 ∨ c = i2 := by simpa using hcm
        rcases e' with q | q | q | q | q
        · rw [q]; exact hzl
        · rw [q]; exact Heap.lt_size hTI
        · rw [q]; exact Heap.lt_size hTO
        · rw [q]; obtain ⟨_, e1, _⟩ := h1; exact Heap.lt_size e1
        · rw [q]; obtain ⟨_, e2, _⟩ := h2; exact Heap.lt_size e2
      rw [upd_ne (Nat.ne_of_lt hlt)]
      exact (hf c hcm).1
  done := by
    intro X hP hw hK hc i pins s σ H E I hf st hg
    subst hP hw hK
    obtain ⟨hz, hTI, ⟨x0, y0, hTO⟩, h1, h2⟩ := st
    obtain ⟨xs, ys, hqx, hqy, hend⟩ := hg
    obtain ⟨its, rv, p, _⟩ := I.list hqx
    obtain ⟨its2, rv2, p2, _⟩ := I.tuple hqy
    have l1 := rv.length
    have l2 := rv2.length
    have he : its.toArray[i]? = none ∨ its2.toArray[i]? = none := by
      rcases hend with q | q
      · exact .inl (by simp; omega)
      · exact .inr (by simp; omega)
    exact pyNext_zipM_end (I.ok.hd hc) D hz hTI hTO h1 h2 p.isList p2 he fun h' hk => ⟨rfl, I.turnedL (t' := s.toks) (ch := [z, TI, TO, i1, i2]) (fun c o hb q =>
      hk c o (fun q' => hb (by simp [q'])) (fun q' => hb (by simp [q'])) (fun q' => hb (by simp [q'])) (fun q' => hb (by simp [q'])) q) hf⟩
  self := fun A i s Q E st h => wpAny_pyIter_zip st.1 h

/-- the first a list, the second a tuple -/
def iZipM (K : PySem.W.Frag) (ta : TA) : TI := fun σ H R => ta σ H fun vs H1 => ∃ a b xs ys, vs = [.ref a, .ref b] ∧ SqL K H1 a xs ∧ SqT K H1 b ys ∧ R (ItzM K a b) H1
theorem pi_zipM {X : Cx} {e e2 : Expr} {ta : TA} {p pos tpos : Pos} {elts : List Expr} {kk : Nat} (hg : Gl X "zip") (hm : X.mg "zip" = none) (ha : PA X [e, e2] ta)
    (hs : starEach [e, e2] X.env = (false, eval e X.env) :: starEach [e2] X.env := by rfl) (hpl : (backTo pos (starEach [e2] X.env)).any (·.1) = false := by rfl) :
    PI X (.Tuple elts kk tpos) (.Call (.Name "zip" p) [e, e2] [] pos) (iZipM X.K ta) := by
  refine ⟨fun pins s σ H R I h => ?_⟩
  refine Call_ (ld_blt I hg hm PyProof.Rows.boot_zip (PyProof.Rows.callWith_type1 (thn (ha.run pos pins s σ H _ I h) fun us s1 ⟨vs, H1, I1, r1, q1⟩ => ?_) hs hpl))
  obtain ⟨a, b, xs, ys, ex, hqx, hqy, q⟩ := q1
  subst ex
  cases r1 with
  | cons r rr =>
    cases rr with
    | cons r' rr =>
      cases rr
      cases r
      cases r'
      have fresh5 : ∀ c, c ∈ [s1.heap.objs.size + 4, s1.heap.objs.size + 2, s1.heap.objs.size + 3, s1.heap.objs.size, s1.heap.objs.size + 1] → FpOk X pins H1 c := fun c hcm => by
        have hle : s1.heap.objs.size ≤ c := by
          have e' : c = s1.heap.objs.size + 4 ∨ c = s1.heap.objs.size + 2 ∨ c = s1.heap.objs.size + 3 ∨ c = s1.heap.objs.size ∨ c = s1.heap.objs.size + 1 := by simpa using hcm
          omega
        exact I1.fpOk hle (I1.hok.fresh hle)
      obtain ⟨its, rv, p1, _⟩ := I1.list hqx
      obtain ⟨its2, rv2, p2, _⟩ := I1.tuple hqy
      obtain ⟨o2, ho2, _⟩ := id p2
      refine call_zipM p1.isList (show s1.heap.IsTuple b its2.toArray from p2) fun h' hz hTI hTO h1 h2 hsz hk => wpAny_pyIter_zip hz ?_
      have I2 : Inv X pins σ H1 { s1 with heap := h' } := I1.kept (t' := s1.toks) hk
      exact ⟨s1.heap.objs.size + 4, [s1.heap.objs.size + 4, s1.heap.objs.size + 2, s1.heap.objs.size + 3, s1.heap.objs.size, s1.heap.objs.size + 1], _, _, H1, rfl, I2, turn_zipM (PySem.W.ktu_apart s1.heap.objs.size a b p1.lt (Heap.lt_size ho2)), ⟨hz, hTI, ⟨_, _, hTO⟩, h1, h2⟩, fresh5, q⟩
theorem walk_zipM {K : PySem.W.Frag} {a b : Addr} {xs ys : List V} {n : Nat} (hn : n = min xs.length ys.length) : Walk (ItzM K a b) n (fun H => SqL K H a xs ∧ SqT K H b ys) (fun i H v H' => ∃ T x y, v = .ref T ∧ H T = none ∧ H' = upd H T (.tup [x, y]) ∧ xs[i]? = some x ∧ ys[i]? = some y) := by
  refine ⟨fun i H hi g => ⟨xs, ys, xs[i]'(by omega), ys[i]'(by omega), g.1, g.2, List.getElem?_eq_getElem _, List.getElem?_eq_getElem _⟩, fun H g => ⟨xs, ys, g.1, g.2, by omega⟩, ?_⟩
  rintro i H x H' hi g ⟨T, y, z, e, h1, h2, h3, h4⟩
  exact ⟨T, y, z, e, h1, h2, h3 _ g.1, h4 _ g.2⟩
end Zm
set_option Elab.async false
set_option linter.all false
set_option maxRecDepth 100000
set_option maxHeartbeats 8000000
set_option autoImplicit false
/-! deed_of -/
namespace K9
open PySem PySem.Spec PyProof.Rows L2 Cm Tx Tk Zm
def wordsL : List Str := formsL.map (·.1)
def hyW (z : Str) : Str := Txt.replace z " " "-"
def knownL : List (Key × V) := formsL.map fun p => (.inr (hyW p.1), .str p.1)
/-- the word that a hyphened one stands for -/
def unhy (z : Str) : Option Str := (formsL.find? fun p => hyW p.1 == z).map (·.1)
def nameE : Option EV → Bool
  | some (.str z) => nameB z
  | _ => false
def entsOf (rest fm : List Str) : List EV := (rest.zip fm).map fun p => entryE p.1 p.2
def goodW (word : Str) (es : List EV) : Bool := deedB (.tup (.str word :: es)) && (!decide (word = "mount") || nameE es[1]?)
def readW : List Str → Option (List EV)
  | [] => none
  | v :: rest => match unhy v with
    | none => none
    | some word => match formOf word with
      | none => none
      | some fm => if rest.length = fm.length then (if goodW word (entsOf rest fm) = true then some (.str word :: entsOf rest fm) else none) else none
/-- what the words may be -/
def WsOk (ws : List Str) : Prop := ∀ v rest word fm, ws = v :: rest → unhy v = some word → formOf word = some fm → rest.length = fm.length → ∀ z sort, (z, sort) ∈ rest.zip fm → sort = "space" → WOk z
inductive Tx9 (K : PySem.W.Frag) (H : Hp) : V → Option (List EV) → Prop
  | str (z : Str) (h : z.length ≤ 90000) (w : WsOk (Txt.split z " ")) : Tx9 K H (.str z) (readW (Txt.split z " "))
  | other {x : V} {n : String} (ty : TyX K H x (.type n)) (h : kitB n "str" = some false) : Tx9 K H x none
def RdAt (H : Hp) (v : V) : Option (List EV) → Prop
  | none => v = .non
  | some es => ∃ a, v = .ref a ∧ H a = some (.tup (es.map evV))
def spDof (K : PySem.W.Frag) : Sp := fun vs H Q _ => ∃ x r, vs = [x] ∧ Tx9 K H x r ∧ ∀ v H', Same H H' → RdAt H' v r → Q v H'
abbrev nDof : List Str := ["text", "words", "known", "word", "deed", "one", "sort"]
theorem scDof : FnScope nDof ["text"] (defScope sDeedOf) := ⟨rfl, rfl, rfl, by decide +kernel, rfl, by decide +kernel, by decide +kernel⟩
/-- the dict FORMS, key by key too -/
structure Fm9 (K : PySem.W.Frag) (w : World) (mg : Str → Option Value) : Prop where
  ex : ∃ aF es n, mg "FORMS" = some (.ref aF) ∧ KKeys K w aF es n wordsL ∧ ∀ p ∈ formsL, ∃ t, PySem.W.nsIn K aF p.1 = some (some (.ref t)) ∧ ∀ H, SqT K H t (p.2.map V.str)
theorem known_put : ∀ (i : Nat) (z : Str), wordsL[i]? = some z → putK (knownL.take i) ((.inr (hyW z) : Key)) (.str z) = knownL.take (i + 1)
  | 0, z, h => by cases h; decide +kernel
  | 1, z, h => by cases h; decide +kernel
  | 2, z, h => by cases h; decide +kernel
  | 3, z, h => by cases h; decide +kernel
  | 4, z, h => by cases h; decide +kernel
  | 5, z, h => by cases h; decide +kernel
  | 6, z, h => by cases h; decide +kernel
  | 7, z, h => by cases h; decide +kernel
  | 8, z, h => by cases h; decide +kernel
  | i + 9, z, h => by cases h
theorem words_short : ∀ z ∈ wordsL, z.length + (z.length + 1) * (Str.ofString "-").length ≤ 16777216 := by decide +kernel
theorem known_dc {aF : Addr} {a0 a1 a2 a3 a4 a5 a6 : Option V} {H : Hp} {Q : VK} (q : ∀ D, H D = none → Q (.ref D) (upd H D (.dK knownL))) :
    tDc (iKD aF wordsL (tC (.ref aF))) (gName 3) tYes (CwR.tReplC (tVar 3) " " "-") (tVar 3) [3] [a0, a1, a2, a3, a4, a5, a6] H Q := by
  refine ⟨rfl, fun D hD => dc_kd (fun i H' => H' = upd H D (.dK (knownL.take i))) rfl ?_ ?_⟩
  · rintro i z H1 hi rfl
    refine ⟨rfl, ⟨_, rfl, _, rfl, words_short z (List.mem_of_getElem? hi), _, rfl, knownL.take i, .inr (hyW z), rfl, upd_same, ?_, ?_⟩⟩
    · have hl : (knownL.take i).length ≤ 9 := by rw [List.length_take]; exact Nat.min_le_right _ _
      exact Nat.lt_of_le_of_lt hl (by decide)
    · rw [upd_upd, known_put i z hi]
  · rintro H1 rfl
    exact q D hD
theorem known_get {H : Hp} {D : Addr} (z : Str) (o : Option V) (h : valV knownL ((.inr z : Key)) = o) (e : H D = some (.dK knownL)) : DGet H D (.str z) o := by
  rw [← h]
  exact DGet.k (k := .inr z) e
theorem known_val (z : Str) : valV knownL ((.inr z : Key)) = (unhy z).map V.str := by
  unfold valV knownL unhy
  rw [List.find?_map, Option.map_map, Option.map_map]
  have e : ((fun kv : Key × V => decide (kv.1 = .inr z)) ∘ fun p : Str × List Str => ((.inr (hyW p.1), .str p.1) : Key × V)) = fun p => hyW p.1 == z := by
    funext p
    by_cases h : hyW p.1 = z
    · subst h
      simp
    · rw [show (hyW p.1 == z) = false by simpa using h]
      exact decide_eq_false fun e => h (Sum.inr.inj e)
  rw [e]
  rfl
theorem readW_none {v : Str} {rest : List Str} (h : unhy v = none) : readW (v :: rest) = none := by
  show (match unhy v with | none => none | some word => _) = _
  rw [h]
theorem readW_some {v word : Str} {rest fm : List Str} (h : unhy v = some word) (hf : formOf word = some fm) : readW (v :: rest) = if rest.length = fm.length then (if goodW word (entsOf rest fm) = true then some (.str word :: entsOf rest fm) else none) else none := by
  show (match unhy v with | none => none | some word => _) = _
  rw [h]
  show (match formOf word with | none => none | some fm => _) = _
  rw [hf]
theorem unhy_mem {z word : Str} (h : unhy z = some word) : word ∈ formsL.map (·.1) := by
  unfold unhy at h
  cases e : formsL.find? fun p => hyW p.1 == z with
  | none =>
    rw [e] at h
    cases h
  | some p =>
    rw [e] at h
    cases h
    exact List.mem_map_of_mem (List.mem_of_find?_eq_some e)
theorem ents_len {rest fm : List Str} (h : rest.length = fm.length) : (entsOf rest fm).length = fm.length := by
  unfold entsOf
  rw [List.length_map, List.length_zip, h]
  exact Nat.min_self _
theorem ents_at {rest fm : List Str} {i : Nat} {z so : Str} (h1 : rest[i]? = some z) (h2 : fm[i]? = some so) : (entsOf rest fm)[i]? = some (entryE z so) := by
  unfold entsOf
  rw [List.getElem?_map, List.getElem?_zip_eq_some (z := (z, so)).mpr ⟨h1, h2⟩]
  rfl
theorem entryE_str {z so u : Str} (h : entryE z so = .str u) : u = z := by
  unfold entryE at h
  split at h
  · split at h <;> cases h
  · split at h
    · split at h
      · cases h
      · split at h <;> cases h
    · cases h
      rfl
theorem ents_short {rest fm : List Str} (h : ∀ z ∈ rest, z.length ≤ 90000) : ∀ e ∈ entsOf rest fm, ∀ u, e = .str u → u.length ≤ 100000 := by
  intro e he u hu
  obtain ⟨p, hp, rfl⟩ := List.mem_map.mp he
  rw [entryE_str hu]
  exact Nat.le_trans (h _ (List.of_mem_zip hp).1) (by decide)
theorem paired_ev {H : Hp} : ∀ {es : List EV}, (∀ e ∈ es, ∀ u, e = .str u → u.length ≤ 100000) → Paired (EvAt H) (es.map evV) es
  | [], _ => .nil
  | e :: es, h => .cons (evV_at (h e (.head _))) (paired_ev fun e' h' => h e' (.tail _ h'))
theorem forms_name {p : Str × List Str} (h : p ∈ formsL) : p.1.length ≤ 100000 ∧ 2 ≤ p.2.length := by
  have : ∀ p ∈ formsL, p.1.length ≤ 100000 ∧ 2 ≤ p.2.length := by decide +kernel
  exact this p h
theorem forms_mount {p : Str × List Str} (h : p ∈ formsL) (e : p.1 = "mount") : p.2.length = 3 := by
  have : ∀ p ∈ formsL, p.1 = "mount" → p.2.length = 3 := by decide +kernel
  exact this p h e
section
variable {P : Program} {w : World} {K : PySem.W.Frag} {mg : Str → Option Value} {base : Heap}
theorem ok_dof {f : Addr} {fd : FuncData} {k : Nat} (F : Fun K "deed_of" "deed_of" sDeedOf f fd) (B : Bi mg) (hz : mg "zip" = none) (Fo : Fm9 K w mg) (Eo : Cl P w K mg base CX0 2 "entry_of" ["word", "sort"] spEo) (De : Cl P w K mg base CX0 4 "is_deed" ["thing"] spIsDeed) (Na : Cl P w K mg base CX0 1 "is_name" ["thing"] (spName K)) : FnOk P w K mg base CX0 (k + 5) f fd ["text"] (spDof K) := by
  obtain ⟨aF, es0, n0, mF, KK, fy⟩ := Fo.ex
  refine F.ok scDof (fun vs H Q E h => ?_) (fun cdv A outer s H vs Q E hr h => ?_)
  · obtain ⟨x, r, rfl, _⟩ := h
    rfl
  · obtain ⟨x, r, rfl, hx, q⟩ := h
    have hu : (cxOf CX0 P w K mg base nDof "deed_of" (defScope sDeedOf) f cdv A outer s H E).nox.A.units + 1 < cLine := Nat.lt_of_le_of_lt (Nat.add_le_add_left (by decide : 1 ≤ 64) _) hr.units
    refine ⟨_, pss_setG (i := 1) scDof.nd rfl (.inl rfl) (peg_ifExp (pt_val (pe_callB call_isi (by rfl) B.isin (by decide +kernel) (pa_cons (pv 0) (pa_cons (pe_bltn (v := .ty "str") (by rfl) B.str (by decide +kernel) rfl) pa_nil)))) (peg_bm1 PySem.F.plainAttrs_str PySem.F.slot_str_split PySem.F.type_str_split mt_split (pv 0)) (peg_lst1))
      (psst_cons (pst_setDc (i := 2) (own := [("word", 3)]) (g := gName 3) (tt := tYes) (by rfl) scDof.nd rfl rfl (by rfl) (pi_kd KK (pe_glob (v := .ref aF) (by rfl) mF rfl)) (blkOk_by (own := [("word", 3)]) (N := nDof) (sc := defScope sDeedOf) (by decide +kernel)) (fun _ _ _ _ _ => pg_name (i := 3) scDof.nd rfl (Or.inl rfl)) (fun _ _ _ _ _ => pts_nil)
          (fun _ _ _ _ _ => CwR.pet_replC (pv 3)) (fun _ _ _ _ _ => pv 3))
      (PSsT.of
      (pss_cons (ps_if (PW.pt (pw_or (pt_cmp (pc_dnotin hu (pe_ix ix_list (pv 1) pe_int (fun _ _ => rfl)) (pv 2))) (pw_or1 (pt_cmpR op_ne (pe_callB call_len_seq (by rfl) B.len PySem.boot_len (pa_cons (pv 1) pa_nil)) (pe_op op_add (pe_callB call_len_seq (by rfl) B.len PySem.boot_len (pa_cons (pe_ix ix_kdict (pe_glob (v := .ref aF) (by rfl) mF rfl) (pe_dget hu (pv 2) (pe_ix ix_list (pv 1) pe_int (fun _ _ => rfl)) (fun _ _ => rfl)) (fun _ _ => rfl)) pa_nil)) pe_int) (nomark _))))) (pss_one (ps_ret pe_non)) pss_nil)
      (pss_cons (ps_set (i := 3) scDof.nd rfl (.inl rfl) (pe_dget hu (pv 2) (pe_ix ix_list (pv 1) pe_int (fun _ _ => rfl)) (fun _ _ => rfl)))
      (pss_cons (ps_set (i := 4) scDof.nd rfl (.inl rfl) (pe_op op_catT (pe_tup (pa_cons (pv 3) pa_nil)) (pe_callTy call_tuple_of (by rfl) B.tuple (by decide +kernel) (pa_cons (pe_lc (own := [("one", 5), ("sort", 6)]) (g := gTup K 2 (gCons (gName 5) (gCons (gName 6) gNil))) (tt := tYes) (by rfl) scDof.nd (pi_zipM (by rfl) hz (pa_cons (pe_slice sl_list (pv 1) (po_some pe_int) po_none) (pa_cons (pe_ix ix_kdict (pe_glob (v := .ref aF) (by rfl) mF rfl) (pv 3) (fun _ _ => rfl)) pa_nil))) (blkOk_by (own := [("one", 5), ("sort", 6)]) (N := nDof) (sc := defScope sDeedOf) (by decide +kernel))
          (fun _ _ _ _ _ => pg_tup rfl (pgs_cons (pg_name (i := 5) scDof.nd rfl (Or.inl rfl)) (pgs_cons (pg_name (i := 6) scDof.nd rfl (Or.inl rfl)) pgs_nil))) (fun _ _ _ _ _ => pts_nil)
          (fun _ _ _ _ _ => pe_cl Eo hr (by omega) (by rfl) pass0 (pa_cons (pv 5) (pa_cons (pv 6) pa_nil)))) pa_nil))))
      (pss_cons (ps_if (PW.pt (pw_or (pt_not (pt_val (pe_cl De hr (by omega) (by rfl) pass0 (pa_cons (pv 4) pa_nil)))) (pw_or1 (PW.pt (pw_and (pt_cmpR op_eq (pv 3) pe_str (nomark _)) (pw_and1 (pt_not (pt_val (pe_cl Na hr (by omega) (by rfl) pass0 (pa_cons (pe_ix ix_tup (pv 4) pe_int (fun _ _ => rfl)) pa_nil)))))))))) (pss_one (ps_ret pe_non)) pss_nil)
      (pss_one (ps_ret (pv 4))))))))), ?_⟩
    cases hx with
    | other ty hn =>
      refine ⟨_, rfl, _, .ty "str", _, _, false, rfl, .ty _, ty, kit_ty hn, _, rfl, iteF ⟨(by show 1 ≤ sizeLine; decide), fun p hp => ?_⟩⟩
      dsimp only [gName, tSeq, tAsg]
      show tDc (iKD aF wordsL (tC (V.ref aF))) (gName 3) tYes (CwR.tReplC (tVar 3) " " "-") (tVar 3) [3] [some x, some (.ref p), none, none, none, none, none] _ _
      refine known_dc fun D hD => ?_
      have hD0 : H D = none := (same_new hp).free hD
      have np : p ≠ D := ne_of_none (show upd H p _ p = some _ from upd_same) hD
      refine ⟨_, rfl, p, [.str ""], 0, .str "", rfl, rfl, SqL.of (by rw [upd_ne np, upd_same]), atI_nat (j := 0) rfl, _, rfl, D, none, rfl, known_get "" none (by decide +kernel) upd_same, _, rfl, ?_⟩
      refine iteT (iteT (q _ _ (same_mut hD0 (same_new hp)) rfl))
    | str z hz hw =>
      refine ⟨_, rfl, _, .ty "str", _, _, true, rfl, .ty _, .base (.str z), kit_ty (by decide +kernel), _, rfl, iteT ⟨_, rfl, rfl, z, _, rfl, rfl, rfl, ?_, fun p hp => ?_⟩⟩
      · exact Nat.le_trans (Nat.add_le_add_right hz 2) (by decide)
      dsimp only [gName, tSeq, tAsg]
      show tDc (iKD aF wordsL (tC (V.ref aF))) (gName 3) tYes (CwR.tReplC (tVar 3) " " "-") (tVar 3) [3] [some (.str z), some (.ref p), none, none, none, none, none] _ _
      refine known_dc fun D hD => ?_
      have hD0 : H D = none := (same_new hp).free hD
      have np : p ≠ D := ne_of_none (show upd H p _ p = some _ from upd_same) hD
      have hws : (upd (upd H p (.lst ((Txt.split z " ").map V.str))) D (.dK knownL)) p = some (.lst ((Txt.split z " ").map V.str)) := by rw [upd_ne np, upd_same]
      have sD : Same H (upd (upd H p (.lst ((Txt.split z " ").map V.str))) D (.dK knownL)) := same_mut hD0 (same_new hp)
      have hlen : ∀ v ∈ Txt.split z " ", v.length ≤ 90000 := fun v hv => Nat.le_trans (part_short hv) hz
      have hcnt : (Txt.split z " ").length ≤ 90002 := Nat.le_trans (split_le _ _) (Nat.add_le_add_right hz 2)
      cases hsp : Txt.split z " " with
      | nil =>
        have := split_pos z " "
        rw [hsp] at this
        cases this
      | cons v rest =>
        rw [hsp] at hws sD hlen hcnt hw q
        generalize hH1 : upd (upd H p (.lst ((v :: rest).map V.str))) D (.dK knownL) = H1 at hws sD ⊢
        have hk : H1 D = some (.dK knownL) := by rw [← hH1, upd_same]
        have a0 : atI ((v :: rest).map V.str) 0 = some (.str v) := atI_nat (j := 0) rfl
        refine ⟨_, rfl, p, _, 0, .str v, rfl, rfl, SqL.of hws, a0, _, rfl, D, _, rfl, known_get v _ (known_val v) hk, _, rfl, ?_⟩
        cases hv : unhy v with
        | none =>
          rw [readW_none hv] at q
          exact iteT (iteT (q _ _ sD rfl))
        | some word =>
          obtain ⟨pf, hpf, rfl, hf, hp3⟩ := form_yes (unhy_mem hv)
          obtain ⟨t, ht, hS⟩ := fy pf hpf
          have kg : DGet H1 D (.str v) (some (.str pf.1)) := known_get v _ (by rw [known_val, hv]; rfl) hk
          rw [readW_some hv hf] at q
          refine iteF ⟨_, rfl, p, _, rfl, .inl (SqL.of hws), ?_⟩
          refine ⟨_, rfl, _, rfl, p, _, 0, .str v, rfl, rfl, SqL.of hws, a0, D, _, rfl, kg, aF, pf.1, .ref t, rfl, rfl, ⟨_, _, _, KK.D.at_, KK.D.lit, ht, rfl⟩, t, _, rfl, .inr (hS _), _, _, rfl, rfl, rfl, _, rfl, ?_⟩
          have lf : (pf.2.map V.str).length = pf.2.length := List.length_map _
          have lr : ((v :: rest).map V.str).length = rest.length + 1 := by rw [List.length_map, List.length_cons]
          by_cases hle : rest.length = pf.2.length
          · rw [if_pos hle] at q
            rw [decide_eq_true (show V.int (((v :: rest).map V.str).length : Nat) = V.int (((pf.2.map V.str).length : Nat) + 1) by rw [lf, lr, hle]; rfl)]
            refine iteF ?_
            refine ⟨_, rfl, _, rfl, p, _, 0, .str v, rfl, rfl, SqL.of hws, a0, D, _, rfl, kg, ?_⟩
            dsimp only [gName, tSeq, tAsg]
            refine ⟨_, rfl, (by show 1 ≤ sizeLine; decide), fun pt hpt => ?_⟩
            have s1 := same_new (o := HO.tup [V.str pf.1]) hpt
            have hws1 := s1 _ _ hws
            refine ⟨_, rfl, 1, rfl, p, _, rfl, SqL.of hws1, fun p1 hp1 => ?_⟩
            have ec : cutV ((v :: rest).map V.str) (some 1) none = rest.map V.str := cut_tail
            rw [ec]
            have s2 := same_new (o := HO.lst (rest.map V.str)) hp1
            have sA : Same H (upd (upd H1 pt (.tup [.str pf.1])) p1 (.lst (rest.map V.str))) := (sD.trans s1).trans s2
            have gpt : (upd (upd H1 pt (.tup [.str pf.1])) p1 (.lst (rest.map V.str))) pt = some (.tup [.str pf.1]) := s2 _ _ upd_same
            have gp1 : (upd (upd H1 pt (.tup [.str pf.1])) p1 (.lst (rest.map V.str))) p1 = some (.lst (rest.map V.str)) := upd_same
            generalize upd (upd H1 pt (.tup [.str pf.1])) p1 (.lst (rest.map V.str)) = H2 at sA gpt gp1 ⊢
            refine ⟨_, rfl, aF, pf.1, .ref t, rfl, rfl, ⟨_, _, _, KK.D.at_, KK.D.lit, ht, rfl⟩, p1, t, _, _, rfl, SqL.of gp1, hS _, fun D2 hD2 => lc_it (walk_zipM (K := K) rfl) (fun i H' => H' D2 = some (.lst (((entsOf rest pf.2).take i).map evV)) ∧ Same H2 H') ⟨upd_same, same_new hD2⟩ (fun i H' _ ⟨_, sm⟩ => ⟨SqL.of (sm _ _ gp1), hS _⟩) ?_ ?_⟩
            · rintro i x H3 H4 hi ⟨h3, sm⟩ ⟨T, xx, yy, rfl, hT, rfl, hx, hy⟩
              rw [List.getElem?_map] at hx hy
              cases er : rest[i]? with
              | none =>
                rw [er] at hx
                cases hx
              | some zz =>
                rw [er] at hx
                cases hx
                cases es1 : pf.2[i]? with
                | none =>
                  rw [es1] at hy
                  cases hy
                | some so =>
                  rw [es1] at hy
                  cases hy
                  have sT := same_new (o := HO.tup [V.str zz, .str so]) hT
                  refine ⟨T, _, rfl, SqT.of upd_same, rfl, _, _, rfl, _, _, rfl, rfl, rfl, _, rfl, _, rfl, zz, so, rfl, hw v rest pf.1 pf.2 rfl hv hf hle zz so (List.mem_of_getElem? (List.getElem?_zip_eq_some (z := (zz, so)).mpr ⟨er, es1⟩)), fun H5 s5 => ?_⟩
                  refine ⟨_, s5 _ _ (sT _ _ h3), small1000 ?_, ?_, same_mut hD2 ((sm.trans sT).trans s5)⟩
                  · rw [List.length_map, List.length_take, ents_len hle]
                    omega
                  · rw [upd_same, take_snoc (ents_at er es1), List.map_append]
                    rfl
            · rintro H3 ⟨h3, sm⟩
              have e : (entsOf rest pf.2).take (min (rest.map V.str).length (pf.2.map V.str).length) = entsOf rest pf.2 := List.take_of_length_le (by rw [ents_len hle, List.length_map, List.length_map, hle, Nat.min_self]; exact Nat.le_refl _)
              rw [e] at h3
              refine ⟨D2, _, rfl, .inl ⟨SqL.of h3, fun l hl => ?_⟩⟩
              have hl2 : H2 l = none := sm.free hl
              have gpt3 := same_new (o := HO.tup ((entsOf rest pf.2).map evV)) hl _ _ (sm _ _ gpt)
              have hes : 2 ≤ (entsOf rest pf.2).length := by rw [ents_len hle]; exact (forms_name hpf).2
              refine ⟨pt, l, _, _, rfl, rfl, SqT.of gpt3, SqT.of upd_same, by simp, ?_, fun e0 => ?_, fun _ p4 hp4 => ?_⟩
              · rw [List.length_map, ents_len hle]
                exact Nat.le_trans (Nat.add_le_add_left hp3 _) (by show 1 + 3 ≤ sizeLine; decide)
              · have : (entsOf rest pf.2).length = 0 := by rw [← List.length_map (f := evV), e0]; rfl
                omega
              have sB : Same H (upd (upd H3 l (.tup ((entsOf rest pf.2).map evV))) p4 (.tup ([.str pf.1] ++ (entsOf rest pf.2).map evV))) := ((sA.trans sm).trans (same_new hl)).trans (same_new hp4)
              have g4 : (upd (upd H3 l (.tup ((entsOf rest pf.2).map evV))) p4 (.tup ([.str pf.1] ++ (entsOf rest pf.2).map evV))) p4 = some (.tup ((.str pf.1 :: entsOf rest pf.2).map evV)) := upd_same
              generalize upd (upd H3 l (.tup ((entsOf rest pf.2).map evV))) p4 (.tup ([.str pf.1] ++ (entsOf rest pf.2).map evV)) = H4 at sB g4 ⊢
              have hsh : ∀ e ∈ (EV.str pf.1 :: entsOf rest pf.2), ∀ u, e = .str u → u.length ≤ 100000 := fun e he u hu => by
                cases he with
                | head =>
                  cases hu
                  exact (forms_name hpf).1
                | tail _ h' => exact ents_short (fun z hz => hlen z (.tail _ hz)) e h' u hu
              have tv : TvAt H4 (.ref p4) (.tup (.str pf.1 :: entsOf rest pf.2)) := ⟨p4, _, rfl, g4, paired_ev hsh, by rw [List.length_cons, ents_len hle]; omega, fun z hz => .inl (by cases hz; exact List.mem_map_of_mem hpf)⟩
              refine ⟨_, rfl, _, _, rfl, tv, fun H5 s5 => ⟨_, rfl, ?_⟩⟩
              have sC := sB.trans s5
              have g5 := s5 _ _ g4
              unfold goodW at q
              by_cases hd : deedB (.tup (.str pf.1 :: entsOf rest pf.2)) = true
              · rw [hd] at q ⊢
                rw [Bool.true_and] at q
                refine iteF ⟨_, rfl, rfl, _, rfl, ?_⟩
                by_cases hm : pf.1 = "mount"
                · rw [decide_eq_true hm, Bool.not_true, Bool.false_or] at q
                  rw [decide_eq_true (show V.str pf.1 = V.str "mount" from congrArg V.str hm)]
                  refine iteT ?_
                  have l3 : (entsOf rest pf.2).length = 3 := by rw [ents_len hle]; exact forms_mount hpf hm
                  obtain ⟨e1, he1⟩ : ∃ e, (entsOf rest pf.2)[1]? = some e := ⟨_, List.getElem?_eq_getElem (by omega)⟩
                  rw [he1] at q
                  have g2 : ((EV.str pf.1 :: entsOf rest pf.2).map evV)[2]? = some (evV e1) := by
                    rw [List.map_cons, List.getElem?_cons_succ, List.getElem?_map, he1]
                    rfl
                  have tn : Tn K H5 nameB (evV e1) (nameE (some e1)) := by
                    have h1 := hsh e1 (.tail _ (List.mem_of_getElem? he1))
                    cases e1 with
                    | str u => exact .str u (h1 u rfl)
                    | int i => exact .other (.base (.int i)) (by decide +kernel)
                    | bl b => exact .other (.base (.bl b)) (by decide +kernel)
                    | oth => exact .other (.base .non) (by decide +kernel)
                  refine ⟨_, rfl, p4, _, 2, _, rfl, rfl, SqT.of g5, atI_nat (j := 2) g2, _, _, rfl, tn, fun H6 s6 => ⟨_, rfl, ?_⟩⟩
                  by_cases hn : nameE (some e1) = true
                  · rw [hn] at q ⊢
                    exact iteF ⟨_, rfl, q _ _ (sC.trans s6) ⟨p4, rfl, s6 _ _ g5⟩⟩
                  · have hn' : nameE (some e1) = false := by simpa using hn
                    rw [hn'] at q ⊢
                    exact iteT (q _ _ (sC.trans s6) rfl)
                · rw [decide_eq_false hm, Bool.not_false, Bool.true_or] at q
                  rw [decide_eq_false (show ¬ V.str pf.1 = V.str "mount" from fun e => hm (V.str.inj e))]
                  exact iteF (iteF ⟨_, rfl, q _ _ sC ⟨p4, rfl, g5⟩⟩)
              · have hd' : deedB (.tup (.str pf.1 :: entsOf rest pf.2)) = false := by simpa using hd
                rw [hd'] at q ⊢
                exact iteT (iteT (q _ _ sC rfl))
          · rw [if_neg hle] at q
            rw [decide_eq_false (show ¬ V.int (((v :: rest).map V.str).length : Nat) = V.int (((pf.2.map V.str).length : Nat) + 1) from fun z => hle (by
              have z' := V.int.inj z
              rw [lf, lr] at z'
              omega))]
            exact iteT (q _ _ sD rfl)
end
end K9
set_option autoImplicit true
set_option Elab.async false
set_option linter.all false
set_option maxRecDepth 100000
set_option maxHeartbeats 4000000
/-! Own exceptions held as values: made without an argument, asked by isinstance. -/
namespace ErV
open PySem PySem.Spec PyProof.Rows L2
section
variable {X : Cx}
/-- isinstance(e, c), e an own exception held as a value -/
def rIsX (K : PySem.W.Frag) : List V → Hp → VK → Prop := fun xs H Q => ∃ (a D : Addr) (c : V) (cv : Value) (b : Bool), xs = [.ref a, c] ∧ H a = some (ExO (.ref D) a) ∧ ExcC K D ∧ (∀ u, RelV c u → u = cv) ∧ PySem.W.kitOne K (.ref D) cv = some b ∧ Q (.bl b) H
theorem call_isX : CallR X (.builtin "isinstance") (rIsX X.K) := by
  intro pins s σ H xs us Q I r h
  obtain ⟨a, D, c, cv, b, rfl, ha, C, hcv, e, q⟩ := h
  obtain ⟨u1, u2, rfl, r1, r2⟩ := vals2 r
  cases (show u1 = Value.ref a from r1)
  have ec := hcv _ r2
  subst ec
  obtain ⟨⟨oe, vs, ho, hz, hd, _⟩, _, _⟩ := I.hok a _ ha
  have J : PySem.W.InstAt s.heap a oe D none := by
    obtain ⟨oc, od, oda, osl⟩ := oe
    obtain ⟨h1, h2⟩ := hz
    dsimp only at h1 h2 hd
    subst h1 h2 hd
    exact ⟨ho, rfl, rfl, trivial⟩
  exact PySem.W.kia_one (PySem.W.handS_kitx_exc C.hg C.hk C.hs C.hd C.ha C.hn C.ht C.hm) I.kIn J e (fun z => nomatch z) fun tk => ⟨.bl b, H, I.tok tk, rfl, q⟩
/-- X(), an own exception class without own __init__, as a value -/
theorem pe_exc0 {C : Addr} {bmB : List Value} {B newId initId : String} {x : Str} {p pos : Pos} (F : ExcBaseFacts B newId initId bmB) (q : PySem.W.excIn X.K C bmB newId = true) (gC : X.mg x = some (.ref C)) (kC : PySem.W.keepIn X.K (.ref C) = true) (hg : Gl X x) (hdb : (x == ("__debug__" : Str)) = false := by decide) :
    PE X (.Call (.Name x p) [] [] pos) (fun σ H Q => ∀ a, H a = none → Q (.ref a) (upd H a (ExO (.ref C) a))) := by
  constructor
  intro pins s σ H Q I h
  apply wpAny_Call_Name_kw
  apply ld_glob I hg gC _ hdb
  refine PySem.W.callWith_K0 I.kIn kC ?_
  obtain ⟨bm, N, nm, qn, bs, hdct, sn, sub, ab, col, dd, k0, k1, k2, k3, k5, mN, hC, hN, hni, T⟩ := exc_obj I.kIn q
  refine wpAny_call_exc_subT F T hC hN hni (fun h' a hm => ?_) (by show 0 ≤ sizeLine; exact Nat.zero_le _)
  have hn : H a = none := I.hok.gone hm.new
  obtain ⟨t, ht, _, _⟩ := hm.there
  exact ⟨.ref a, upd H a (ExO (.ref C) a), I.laidN hm.keeps hm.new hn (exO_ok ht ⟨rfl, rfl⟩ rfl rfl rfl (show 4 < 6 by decide)), rfl, h a hn⟩
end
end ErV
set_option autoImplicit true
set_option Elab.async false
set_option linter.all false
set_option maxRecDepth 100000
set_option maxHeartbeats 4000000
/-! Own exceptions whose __init__ says Base.__init__(self, text): the base's call, and the making of one as a value. -/
namespace ErV
open PySem PySem.Spec PyProof.Rows L2
section
variable {X : Cx} {e : Expr} {es : List Expr} {ta : TA} {p p1 p2 pos : Pos}
/-- Base.__init__(self, ..), Base a class of the text over ValueError -/
theorem pe_cinit {pl : Sem Bool} {cn : Str} {CM : Addr} (hg : Gl X cn) (hm : X.mg cn = some (.ref CM)) (sg : PySem.W.specialIn X.K (.ref CM) "__getattribute__" = some (some (.builtin "type.__getattribute__"))) (rd : PySem.W.readsIn X.K CM (.type "type") = true)
    (vV : PySem.W.findCls X.K (.ref CM) (.type "type") "__init__" = some (.val (.builtin "ValueError.__init__"))) (ha : PA X (e :: es) ta) (hdb : (cn == ("__debug__" : Str)) = false := by decide)
    (hc : eval (.Call (.Attribute (.Name cn p1) "__init__" p2) (e :: es) [] pos) X.env = (do
      let ov ← eval (.Name cn p1) X.env
      standAt p2.atName
      let (f, first) ← holding [ov] (getMethod ov "__init__" pl)
      callWith pos f first (backTo pos (starEach (e :: es) X.env)) (backToKw pos (keywordEach [] X.env))) := by rfl)
    (he : starEach (e :: es) X.env = (false, eval e X.env) :: starEach es X.env := by rfl) (hpl : (backTo pos (starEach es X.env)).any (·.1) = false := by rfl) :
    PE X (.Call (.Attribute (.Name cn p1) "__init__" p2) (e :: es) [] pos) (tVeI X.K ta) := by
  constructor
  intro pins s σ H Q I h
  refine PySem.W.methodCall_KW (ld_glob I hg hm ?_ hdb) hc
  refine PySem.W.method_cls I.kIn sg (PySem.W.cls_value I.kIn rd vV (by decide +kernel) ?_)
  show wpAny _ _ (callWith pos (Value.builtin "ValueError.__init__") [] (backTo pos (starEach (e :: es) X.env)) []) _ _ _
  refine PyProof.Rows.callWith_method1 (thn (ha.run pos pins _ σ H _ (I.tok _) h) ?_) he hpl
  rintro us s1 ⟨vs, H1, I1, r1, a, C, ws, ev, hl, T, ea, q⟩
  subst ev
  match us, r1 with
  | u0 :: ur, .cons ra rw' =>
    cases (show u0 = Value.ref a from ra)
    refine oinit_ok T I1 ea ?_ fun s' J => ⟨.non, H1, J, rfl, q⟩
    rw [← Paired.length rw', sizeLine_eq]
    omega
/-- C(e, ..) as a value, C with an __init__ of the text -/
def tOex (C : Addr) (sp : Sp) (dvs : List V) (ta : TA) : TE := fun σ H Q => ta σ H fun vs H1 => vs.length ≤ 1000 ∧ ∀ a, H1 a = none → sp (.ref a :: (vs ++ dvs)) (upd H1 a (exo a C none)) (fun v H2 => v = .non ∧ Q (.ref a) H2) (fun _ _ _ => False)
theorem run_oex {CX : CXT} {C fI : Addr} {k : Nat} {fd : FuncData} {ps : List Str} {sp : Sp} {ds : List Value} {dvs : List V} (T : OexC X.K C) (iC : PySem.W.findIn X.K (.ref C) "__init__" = some (some (.ref fI))) (tI : PySem.W.typeIn X.K (.ref fI) = some (.type "function"))
    (F1 : FnOk X.prog X.w X.K X.mg X.base CX k fI fd ps sp) (hr : Room (k + 1) X.A) (hb : Binds X.K fd ps ds) (hd : Vals dvs ds) (hx : Passes CX X (fun _ _ _ => False)) {pins : List (Addr × Obj)} {σ : L2.St} {H1 : Hp} {s1 : Shared} {us : List Value} {vs : List V} {Q : VK}
    (I1 : Inv X pins σ H1 s1) (r1 : Vals vs us) (hz : vs.length ≤ 1000) (q1 : ∀ a, H1 a = none → sp (.ref a :: (vs ++ dvs)) (upd H1 a (exo a C none)) (fun v H2 => v = .non ∧ Q (.ref a) H2) (fun _ _ _ => False)) :
    wpAny (model X.prog X.w) X.A (call (.ref C) us) (EP X pins σ Q) X.xe s1 := by
  obtain ⟨nm, q, N, bs, bm, sn, sub, ab, col, dd, k0, k1, k2, k3, k5, hC, hbm⟩ := T.cls
  obtain ⟨hp, g, dr, tk, os⟩ := s1
  have hn : H1 (hp.objs.size + 1) = none := I1.hok.fresh (Nat.le_succ _)
  have hq := q1 (hp.objs.size + 1) hn
  have hget : ((hp.push (PySem.W.kdv_tup us)).push (PySem.HandSPX.excO C hp.objs.size)).get? (hp.objs.size + 1) = some (PySem.HandSPX.excO C hp.objs.size) := by heap_get
  have J : Inv X pins σ (upd H1 (hp.objs.size + 1) (exo (hp.objs.size + 1) C none)) ⟨(hp.push (PySem.W.kdv_tup us)).push (PySem.HandSPX.excO C hp.objs.size), g, dr, tk, os⟩ :=
    I1.laid (t' := tk) (fun b o z => Heap.get?_push_of_some _ (Heap.get?_push_of_some _ z)) (Nat.le_succ _) (exo_ok hget)
  have rs : Vals (V.ref (hp.objs.size + 1) :: (vs ++ dvs)) (Value.ref (hp.objs.size + 1) :: (us ++ ds)) := .cons rfl (r1.append hd)
  have hl : (Value.ref (hp.objs.size + 1) :: us ++ ds).length = ps.length := rs.length.symm.trans (F1.len _ _ _ _ hq)
  have hus : us.length ≤ sizeLine := by
    rw [← Paired.length r1, sizeLine_eq]
    omega
  refine wpAny_call (PySem.HandSPX.call_own PySem.F.excBase_ValueError (fun Y => PySem.HandSPX.refsVE_contains Y bm hbm) (I1.kIn _ _ hC) (PySem.W.looks_findIn I1.kIn iC) (fun self => PySem.W.bind_fn I1.kIn self tI) hus
    (codeAny_mono (F1.run _ X.stack _ _ ⟨Value.ref (hp.objs.size + 1) :: us, []⟩ (Value.ref (hp.objs.size + 1) :: (us ++ ds)) _ _ (fun _ _ _ => False) (hr.make C us []) (J.env0.make C us []) (hb _ (Value.ref (hp.objs.size + 1) :: us) J.kIn hl) rs hq) ?_))
  rintro (er | fl) s' z
  · exact hx pins σ _ _ er s' J z
  · match fl, z with
    | .ret u, z =>
      obtain ⟨v, H', I3, rv, ev, q3⟩ := J.after z
      subst ev
      exact ⟨rv, V.ref (hp.objs.size + 1), H', I3, rfl, q3⟩
theorem pe_oex {CX : CXT} {x : Str} {C fI : Addr} {k : Nat} {fd : FuncData} {ps : List Str} {sp : Sp} {ds : List Value} {dvs : List V} (T : OexC X.K C) (iC : PySem.W.findIn X.K (.ref C) "__init__" = some (some (.ref fI))) (tI : PySem.W.typeIn X.K (.ref fI) = some (.type "function"))
    (F1 : FnOk X.prog X.w X.K X.mg X.base CX k fI fd ps sp) (hr : Room (k + 1) X.A) (hb : Binds X.K fd ps ds) (hd : Vals dvs ds) (hx : Passes CX X (fun _ _ _ => False)) (hg : Gl X x) (hm : X.mg x = some (.ref C)) (ha : PA X (e :: es) ta)
    (hdb : (x == ("__debug__" : Str)) = false := by decide) (he : starEach (e :: es) X.env = (false, eval e X.env) :: starEach es X.env := by rfl) (hpl : (backTo pos (starEach es X.env)).any (·.1) = false := by rfl) :
    PE X (.Call (.Name x p) (e :: es) [] pos) (tOex C sp dvs ta) := by
  constructor
  intro pins s σ H Q I h
  apply wpAny_Call_Name_kw
  apply ld_glob I hg hm _ hdb
  refine PySem.W.callWith_K (h₀ := X.base) I.ok.mod.kin T.kC ?_ he hpl
  refine thn (ha.run pos pins s σ H _ I h) ?_
  rintro us s1 ⟨vs, H1, I1, r1, hz, q1⟩
  exact ⟨I1.kIn, run_oex T iC tI F1 hr hb hd hx I1 r1 hz q1⟩
/-- C(), all by default -/
theorem pe_oex0 {CX : CXT} {x : Str} {C fI : Addr} {k : Nat} {fd : FuncData} {ps : List Str} {sp : Sp} {ds : List Value} {dvs : List V} (T : OexC X.K C) (iC : PySem.W.findIn X.K (.ref C) "__init__" = some (some (.ref fI))) (tI : PySem.W.typeIn X.K (.ref fI) = some (.type "function"))
    (F1 : FnOk X.prog X.w X.K X.mg X.base CX k fI fd ps sp) (hr : Room (k + 1) X.A) (hb : Binds X.K fd ps ds) (hd : Vals dvs ds) (hx : Passes CX X (fun _ _ _ => False)) (hg : Gl X x) (hm : X.mg x = some (.ref C)) (hdb : (x == ("__debug__" : Str)) = false := by decide) :
    PE X (.Call (.Name x p) [] [] pos) (tOex C sp dvs tNil) := by
  constructor
  intro pins s σ H Q I h
  apply wpAny_Call_Name_kw
  apply ld_glob I hg hm _ hdb
  obtain ⟨hz, q1⟩ := h
  exact PySem.W.callWith_K0 I.kIn T.kC (run_oex (us := []) T iC tI F1 hr hb hd hx I .nil hz q1)
end
end ErV
set_option Elab.async false
set_option linter.all false
set_option maxRecDepth 100000
set_option maxHeartbeats 8000000
set_option autoImplicit false
/-! read_deed, deed_text -/
namespace K9
open PySem PySem.Spec PyProof.Rows L2 Cm Tx Tk Zm ErV
section
variable {X : Cx} {p pos : Pos}
theorem pmk_oex0 {CX : CXT} {x : Str} {C fI : Addr} {k : Nat} {fd : FuncData} {ps : List Str} {sp : Sp} {ds : List Value} {dvs : List V} (T : OexC X.K C) (iC : PySem.W.findIn X.K (.ref C) "__init__" = some (some (.ref fI))) (tI : PySem.W.typeIn X.K (.ref fI) = some (.type "function"))
    (F1 : FnOk X.prog X.w X.K X.mg X.base CX k fI fd ps sp) (hr : Room (k + 1) X.A) (hb : Binds X.K fd ps ds) (hd : Vals dvs ds) (hx : Passes CX X (fun _ _ _ => False)) (hg : Gl X x) (hm : X.mg x = some (.ref C))
    (hdb : (x == ("__debug__" : Str)) = false := by decide) :
    PMk X (.Call (.Name x p) [] [] pos) (tMkO C sp dvs tNil) := by
  intro pins s σ H Q I h
  obtain ⟨nm, q, N, bs, bm, sn, sub, ab, col, dd, k0, k1, k2, k3, k5, hC, hbm⟩ := T.cls
  refine wpAny_Call_Name_kw (ld_glob I hg hm ?_ hdb)
  refine PySem.W.callWith_K0 (first := []) I.kIn T.kC ?_
  obtain ⟨hz, q1⟩ := h
  show wpAny _ _ (call (.ref C) []) _ _ _
  generalize hus0 : ([] : List Value) = us
  have r1 : Vals ([] : List V) us := by rw [← hus0]; exact .nil
  generalize hvs0 : ([] : List V) = vs at r1 hz q1
  generalize hH1 : H = H1 at I q1
  have I1 := I
  obtain ⟨hp, g, dr, tk, os⟩ := s
  have hsz : hp.objs.size ≤ hp.objs.size + 1 := Nat.le_succ _
  have hn : H1 (hp.objs.size + 1) = none := I1.hok.fresh hsz
  have hq := q1 (hp.objs.size + 1) hn
  have kk : ∀ b o, hp.get? b = some o → ((hp.push (PySem.W.kdv_tup us)).push (PySem.HandSPX.excO C hp.objs.size)).get? b = some o := fun b o e => Heap.get?_push_of_some _ (Heap.get?_push_of_some _ e)
  have hget : ((hp.push (PySem.W.kdv_tup us)).push (PySem.HandSPX.excO C hp.objs.size)).get? (hp.objs.size + 1) = some (PySem.HandSPX.excO C hp.objs.size) := by heap_get
  have I2 : Inv X pins σ (upd H1 (hp.objs.size + 1) (exo (hp.objs.size + 1) C none)) ⟨(hp.push (PySem.W.kdv_tup us)).push (PySem.HandSPX.excO C hp.objs.size), g, dr, tk, os⟩ :=
    I1.laid (t' := tk) (a := hp.objs.size + 1) (o := exo (hp.objs.size + 1) C none) (h' := (hp.push (PySem.W.kdv_tup us)).push (PySem.HandSPX.excO C hp.objs.size)) kk hsz (exo_ok hget)
  have r2 : Vals (V.ref (hp.objs.size + 1) :: (vs ++ dvs)) (Value.ref (hp.objs.size + 1) :: (us ++ ds)) := .cons rfl (r1.append hd)
  have hl : (Value.ref (hp.objs.size + 1) :: us ++ ds).length = ps.length := by
    have e := r2.length
    rw [F1.len _ _ _ _ hq] at e
    exact e.symm
  have hus : us.length ≤ sizeLine := by
    rw [← Paired.length r1, sizeLine_eq]
    omega
  refine wpAny_call (PySem.HandSPX.call_own PySem.F.excBase_ValueError (fun Y => PySem.HandSPX.refsVE_contains Y bm hbm) (I1.kIn _ _ hC) (PySem.W.looks_findIn I1.kIn iC) (fun self => PySem.W.bind_fn I1.kIn self tI) hus
    (codeAny_mono (F1.run _ X.stack _ _ ⟨Value.ref (hp.objs.size + 1) :: us, []⟩ (Value.ref (hp.objs.size + 1) :: (us ++ ds)) _ _ (fun _ _ _ => False) (hr.make C us []) (I2.env0.make C us []) (hb _ (Value.ref (hp.objs.size + 1) :: us) I2.kIn hl) r2 hq) fun r s' hq' => ?_))
  cases r with
  | error er => exact hx pins σ _ _ er s' I2 hq'
  | ok fl =>
    cases fl with
    | ret u =>
      obtain ⟨v, H2, os2, bare2, un2, hok2, rv, ev, d, fs, ea, ed, hd1, q2⟩ := hq'
      subst ev
      obtain ⟨h2, g2, d2, t2, os'⟩ := s'
      exact ⟨rv, mk_end (raises_own T.exC T.tyC) I1 hsz kk un2 hok2 os2 bare2 ea ed hd1 q2⟩
    | next => exact False.elim hq'
    | brk => exact False.elim hq'
    | cont => exact False.elim hq'
end
/-- MountError, whose __init__ is called -/
structure Me (K : PySem.W.Frag) (mg : Str → Option Value) (CM : Addr) : Prop where
  at_ : mg "MountError" = some (.ref CM)
  sg : PySem.W.specialIn K (.ref CM) "__getattribute__" = some (some (.builtin "type.__getattribute__"))
  rd : PySem.W.readsIn K CM (.type "type") = true
  vV : PySem.W.findCls K (.ref CM) (.type "type") "__init__" = some (.val (.builtin "ValueError.__init__"))
def spXi (K : PySem.W.Frag) (f : Str) : Sp := fun vs H Q _ => ∃ (a C : Addr) (y : V), vs = [.ref a, y] ∧ OexC K C ∧ PySem.W.findIn K (.ref C) f = some none ∧ H a = some (exo a C none) ∧ ∀ dx, H dx = none → dx ≠ a → Q .non (upd (upd H dx (exd dx [(f, y)])) a (exo a C (some dx)))
theorem scNoText : FnScope ["self", "line"] ["self", "line"] (defScope sTextI) := ⟨rfl, rfl, rfl, by decide +kernel, rfl, by decide +kernel, by decide +kernel⟩
/-- the class NoText -/
structure Nt (P : Program) (w : World) (K : PySem.W.Frag) (mg : Str → Option Value) (base : Heap) (CN : Addr) : Prop where
  g : mg "NoText" = some (.ref CN)
  T : OexC K CN
  no : PySem.W.findIn K (.ref CN) "line" = some none
  ini : ∃ (fI : Addr) (fd : FuncData) (ds : List Value), PySem.W.findIn K (.ref CN) "__init__" = some (some (.ref fI)) ∧ PySem.W.typeIn K (.ref fI) = some (.type "function") ∧ FnOk P w K mg base CX0 1 fI fd ["self", "line"] (spXi K "line") ∧ Binds K fd ["self", "line"] ds ∧ Vals [.non] ds
theorem scRd : FnScope ["text", "found"] ["text"] (defScope sReadDeed) := ⟨rfl, rfl, rfl, by decide +kernel, rfl, by decide +kernel, by decide +kernel⟩
def spRd (K : PySem.W.Frag) (CN : Addr) : Sp := fun vs H Q E => ∃ x r, vs = [x] ∧ Tx9 K H x r ∧ (∀ es, r = some es → ∀ v H', Same H H' → RdAt H' v (some es) → Q v H') ∧ (r = none → ∀ d fs H', Same H H' → H' d = some (.xd fs) → E (.ref CN) (some d) H')
section
variable {P : Program} {w : World} {K : PySem.W.Frag} {mg : Str → Option Value} {base : Heap}
theorem ok_NoText {f : Addr} {fd : FuncData} {k : Nat} {CM : Addr} (F : FunD K "__init__" "NoText.__init__" (defArgs sTextI) (defBody sTextI) (defScope sTextI) [.non] [] f fd) (M : Me K mg CM) : FnOk P w K mg base CX0 (k + 1) f fd ["self", "line"] (spXi K "line") := by
  refine F.ok scNoText (fun vs H Q E h => ?_) (fun cdv A outer s H vs Q E hr h => ?_)
  · obtain ⟨a, C, y, rfl, _⟩ := h
    rfl
  · obtain ⟨a, C, y, rfl, T, hno, ha, q⟩ := h
    refine ⟨_, pss_cons (ps_expr (pe_cinit (by rfl) M.at_ M.sg M.rd M.vV (pa_cons (pv 0) (pa_cons pe_str pa_nil)))) (pss_one (ps_ost (pv 0) (pv 1))), ?_⟩
    exact ⟨_, rfl, a, C, _, rfl, (by show 1 ≤ 1000; decide), T, ha, _, rfl, _, rfl, a, C, rfl, T, hno, .inl ⟨ha, fun dx hd ne => q dx hd ne⟩⟩
theorem ok_rd {f : Addr} {fd : FuncData} {k : Nat} {CN : Addr} (F : Fun K "read_deed" "read_deed" sReadDeed f fd) (N : Nt P w K mg base CN) (Do : Cl P w K mg base CX0 5 "deed_of" ["text"] (spDof K)) : FnOk P w K mg base (L2.CX P w) (k + 6) f fd ["text"] (spRd K CN) := by
  obtain ⟨fI, fdI, ds, iC, tI, FI, bI, vI⟩ := N.ini
  refine F.okX scRd (fun vs H Q E h => ?_) (fun cdv A outer s H vs Q E hr h => ?_)
  · obtain ⟨x, r, rfl, _⟩ := h
    rfl
  · obtain ⟨x, r, rfl, hx, q1, q2⟩ := h
    refine ⟨_, pss_cons (ps_set (i := 1) scRd.nd rfl (.inl rfl) (pe_cl Do hr (by omega) (by rfl) pass0 (pa_cons (pv 0) pa_nil)))
      (pss_cons (ps_if (pt_cmpR op_isN (pv 1) pe_non (nomark _)) (pss_one (ps_raise rfl (takes_of rfl rfl rfl rfl) (pmk_oex0 N.T iC tI FI (hr.mono (by omega)) bI vI pass0 (by rfl) N.g))) pss_nil)
      (pss_one (ps_ret (pv 1)))), ?_⟩
    refine ⟨_, rfl, x, r, rfl, hx, fun v H1 s1 hv => ?_⟩
    cases r with
    | some es =>
      obtain ⟨a, rfl, ha⟩ := hv
      exact ⟨_, rfl, rfl, _, rfl, iteF ⟨_, rfl, q1 es rfl _ H1 s1 ⟨a, rfl, ha⟩⟩⟩
    | none =>
      cases (show v = .non from hv)
      refine ⟨_, rfl, rfl, _, rfl, iteT ⟨(by show 0 ≤ 1000; decide), fun a ha => ?_⟩⟩
      refine ⟨a, CN, .non, rfl, N.T, N.no, upd_same, fun dx hdx nd => ⟨rfl, dx, [("line", .non)], upd_same, ?_, ?_, ?_⟩⟩
      · rw [upd_ne nd, upd_same]
      · have hd0 := hdx
        rw [upd_ne nd] at hd0
        exact hd0
      · have hd0 := hdx
        rw [upd_ne nd] at hd0
        refine q2 rfl dx [("line", .non)] _ (fun b o e => ?_) upd_same
        have e1 := s1 _ _ e
        have na : b ≠ a := ne_of_none e1 ha
        have nd2 : b ≠ dx := ne_of_none e1 hd0
        rw [upd_ne nd2, del_ne na, upd_ne na, upd_ne nd2, upd_ne na]
        exact e1
end
end K9
set_option Elab.async false
set_option linter.all false
set_option maxRecDepth 100000
set_option maxHeartbeats 8000000
set_option autoImplicit false
/-! deed_text -/
namespace K9
open PySem PySem.Spec PyProof.Rows L2 Cm Tx Tk Zm ErV
/-- an error of the text, made with a text -/
structure Ec (K : PySem.W.Frag) (mg : Str → Option Value) (nm : Str) (C : Addr) : Prop where
  g : mg nm = some (.ref C)
  x : PySem.W.excIn K C [.type "ValueError", .type "Exception", .type "BaseException", .type "object"] "ValueError.__new__" = true
  k : PySem.W.keepIn K (.ref C) = true
  b : PySem.W.subIn K (.ref C) (.type "BaseException") = some true
  t : PySem.W.typeIn K (.ref C) = some (.type "type")
def most : Int := 10 ^ 60 - 1
def wholeE : Option EV → Bool
  | some (.int i) => decide (-most ≤ i) && decide (i ≤ most)
  | _ => false
def wordsOf9 (word : Str) (es : List EV) : List Str := hyW word :: es.map entryT
def goodT : TV → Bool
  | .tup (.str word :: es) => deedB (.tup (.str word :: es)) && ((!decide (word = "mount") || nameE es[1]?) && wholeE es[0]?)
  | _ => false
def textT : TV → Str
  | .tup (.str word :: es) => Txt.join " " (wordsOf9 word es)
  | _ => ""
def GoodW : TV → Prop
  | .tup (_ :: es) => ∀ e ∈ es, EOk e ∧ (entryT e).length ≤ 1000
  | _ => True
theorem scDt : FnScope ["deed", "entry"] ["deed"] (defScope sDeedText) := ⟨rfl, rfl, rfl, by decide +kernel, rfl, by decide +kernel, by decide +kernel⟩
def spDt (CD : Addr) : Sp := fun vs H Q E => ∃ v t, vs = [v] ∧ TvAt H v t ∧ (goodT t = true → GoodW t) ∧ (goodT t = true → ∀ H', Same H H' → Q (.str (textT t)) H') ∧ (goodT t = false → ∀ H', Same H H' → E (.ref CD) none H')
theorem deedB_word {t : TV} (h : deedB t = true) : ∃ p es, p ∈ formsL ∧ t = .tup (.str p.1 :: es) ∧ es.length = p.2.length ∧ p.2.length ≤ 3 ∧ ((es.zip p.2).map fun p => entryB p.1 p.2).all id = true := by
  match t, h with
  | .tup (.str z :: es), h =>
    rw [deedB_str] at h
    cases hf : formOf z with
    | none =>
      rw [hf] at h
      cases h
    | some fm =>
      rw [hf] at h
      dsimp only at h
      unfold formOf at hf
      cases e : formsL.find? fun p => p.1 == z with
      | none =>
        rw [e] at hf
        cases hf
      | some p =>
        rw [e] at hf
        cases hf
        have hz : p.1 = z := by simpa using List.find?_some e
        have hm := List.mem_of_find?_eq_some e
        subst hz
        by_cases hl : es.length = p.2.length
        · rw [if_pos hl] at h
          have h3 : ∀ p ∈ formsL, p.2.length ≤ 3 := by decide +kernel
          exact ⟨p, es, hm, rfl, hl, h3 p hm, h⟩
        · rw [if_neg hl] at h
          cases h
theorem wh_of {K : PySem.W.Frag} {H : Hp} {x : V} {e : EV} (h : EvAt H x e) : Wh K H x (-most) most (wholeE (some e)) := by
  cases e with
  | int i =>
    cases (show x = .int i from h)
    exact .int i _ _
  | bl b =>
    cases (show x = .bl b from h)
    exact .bl b _ _
  | str z =>
    cases (show x = .str z from h.1)
    exact .other _ _ (.base (.str z)) (by decide +kernel)
  | oth =>
    obtain ⟨n, ty, _, hi, _⟩ := Oth.ty (K := K) h
    exact .other _ _ ty hi
theorem tn_of {K : PySem.W.Frag} {H : Hp} {x : V} {e : EV} (h : EvAt H x e) : Tn K H nameB x (nameE (some e)) := by
  cases e with
  | int i =>
    cases (show x = .int i from h)
    exact .other (.base (.int i)) (by decide +kernel)
  | bl b =>
    cases (show x = .bl b from h)
    exact .other (.base (.bl b)) (by decide +kernel)
  | str z =>
    cases (show x = .str z from h.1)
    exact .str z h.2
  | oth =>
    obtain ⟨n, ty, hi, _, _⟩ := Oth.ty (K := K) h
    exact .other ty hi
theorem pd_get {H : Hp} {xs : List V} {es : List EV} (p : Paired (EvAt H) xs es) : ∀ {i : Nat} {e : EV}, es[i]? = some e → ∃ x, xs[i]? = some x ∧ EvAt H x e := by
  induction p with
  | nil =>
    intro i e h
    cases h
  | cons a r ih =>
    intro i e h
    match i, h with
    | 0, h =>
      cases h
      exact ⟨_, rfl, a⟩
    | i + 1, h => exact ih h
theorem hy_ok : ∀ p ∈ formsL, p.1.length + (p.1.length + 1) * (Str.ofString "-").length ≤ 16777216 ∧ (hyW p.1).length ≤ 1000 ∧ 2 ≤ p.2.length ∧ (p.1 = "mount" → p.2.length = 3) := by decide +kernel
theorem goodT_eq (word : Str) (es : List EV) : goodT (.tup (.str word :: es)) = (deedB (.tup (.str word :: es)) && ((!decide (word = "mount") || nameE es[1]?) && wholeE es[0]?)) := rfl
theorem join_room {z : Str} {es : List EV} (hz : z.length ≤ 1000) (h : ∀ e ∈ es, (entryT e).length ≤ 1000) (hl : es.length ≤ 3) : ((z :: es.map entryT).map (·.length)).sum + (z :: es.map entryT).length * (Str.ofString " ").length ≤ 16777216 := by
  have h1 : ∀ l : List EV, (∀ e ∈ l, (entryT e).length ≤ 1000) → ((l.map entryT).map (·.length)).sum ≤ 1000 * l.length := by
    intro l
    induction l with
    | nil => intro _; exact Nat.le_refl _
    | cons e r ih =>
      intro h
      have a := h e (.head _)
      have b := ih fun e' h' => h e' (.tail _ h')
      rw [List.map_cons, List.map_cons, List.sum_cons, List.length_cons]
      omega
  have h2 := h1 es h
  have h3 : (Str.ofString " ").length = 1 := rfl
  rw [List.map_cons, List.sum_cons, List.length_cons, List.length_map, h3]
  omega
section
variable {P : Program} {w : World} {K : PySem.W.Frag} {mg : Str → Option Value} {base : Heap}
theorem ok_dt {f : Addr} {fd : FuncData} {k : Nat} {CD : Addr} {tM : Tok} (F : Fun K "deed_text" "deed_text" sDeedText f fd) (e : Ec K mg "NoDeed" CD) (hM : mg "MOST" = some (.int most tM)) (De : Cl P w K mg base CX0 4 "is_deed" ["thing"] spIsDeed) (Na : Cl P w K mg base CX0 1 "is_name" ["thing"] (spName K))
    (Wl : Cl P w K mg base CX0 1 "is_whole" ["thing", "low", "high"] (spWhole K)) (Et : Cl P w K mg base CX0 1 "entry_text" ["entry"] spEt) : FnOk P w K mg base (L2.CX P w) (k + 5) f fd ["deed"] (spDt CD) := by
  refine F.okX scDt (fun vs H Q E h => ?_) (fun cdv A outer s H vs Q E hr h => ?_)
  · obtain ⟨v, t, rfl, _⟩ := h
    rfl
  · obtain ⟨v, t, rfl, tv, hw, q1, q2⟩ := h
    refine ⟨_, pss_cons (ps_if (PW.pt (pw_or (pt_not (pt_val (pe_cl De hr (by omega) (by rfl) pass0 (pa_cons (pv 0) pa_nil))))
        (pw_or (PW.pt (pw_and (pt_cmpR op_eq (pe_ix ix_tup (pv 0) pe_int (fun _ _ => rfl)) pe_str (nomark _)) (pw_and1 (pt_not (pt_val (pe_cl Na hr (by omega) (by rfl) pass0 (pa_cons (pe_ix ix_tup (pv 0) pe_int (fun _ _ => rfl)) pa_nil)))))))
        (pw_or1 (pt_not (pt_val (pe_cl Wl hr (by omega) (by rfl) pass0 (pa_cons (pe_ix ix_tup (pv 0) pe_int (fun _ _ => rfl)) (pa_cons (pe_un un_neg (pe_glob (v := .int most) (by rfl) hM ⟨_, rfl⟩)) (pa_cons (pe_glob (v := .int most) (by rfl) hM ⟨_, rfl⟩) pa_nil)))))))))) (pss_one (ps_raise rfl (takes_of rfl rfl rfl rfl) (pmk_own PySem.F.excBase_ValueError e.x e.g e.k (raises_own e.b e.t) (by rfl)))) pss_nil)
      (pss_one (ps_ret (pe_join pe_str (pe_op op_cat (pe_lst (pa_cons (pe_replG (peg_ix ix_tup (pv 0) peg_int (fun _ _ => rfl))) pa_nil)) (pe_lc (own := [("entry", 1)]) (g := gName 1) (tt := tYes) (by rfl) scDt.nd (pi_tup (pe_slice sl_tup (pv 0) (po_some pe_int) po_none)) (blkOk_by (own := [("entry", 1)]) (N := ["deed", "entry"]) (sc := defScope sDeedText) (by decide +kernel)) (fun _ _ _ _ _ => pg_name (i := 1) scDt.nd rfl (Or.inl rfl)) (fun _ _ _ _ _ => pts_nil)
          (fun _ _ _ _ _ => pe_cl Et hr (by omega) (by rfl) pass0 (pa_cons (pv 1) pa_nil))))))), ?_⟩
    refine ⟨_, rfl, v, t, rfl, tv, fun H1 s1 => ⟨_, rfl, ?_⟩⟩
    by_cases hd : deedB t = true
    · obtain ⟨p, es, hp, rfl, hl, hp3, _⟩ := deedB_word hd
      obtain ⟨a, xs, rfl, ha, pd, hle, hz⟩ := tv
      have lxs := Paired.length pd
      obtain ⟨x0, hx0, ev0⟩ := pd_get pd (i := 0) (e := .str p.1) rfl
      cases (show x0 = .str p.1 from ev0.1)
      have l2 := (hy_ok p hp).2.2.1
      obtain ⟨e0, he0⟩ : ∃ e, es[0]? = some e := ⟨_, List.getElem?_eq_getElem (by omega)⟩
      rw [hd]
      have ha1 := s1 _ _ ha
      have a01 : atI xs 0 = some (.str p.1) := atI_nat (j := 0) hx0
      refine iteF ⟨_, rfl, a, _, 0, .str p.1, rfl, rfl, SqT.of ha1, a01, rfl, _, rfl, ?_⟩
      by_cases hm : p.1 = "mount"
      · rw [decide_eq_true (show V.str p.1 = V.str "mount" from congrArg V.str hm)]
        refine iteT ?_
        have l3 := (hy_ok p hp).2.2.2 hm
        obtain ⟨e1, he1⟩ : ∃ e, es[1]? = some e := ⟨_, List.getElem?_eq_getElem (by omega)⟩
        obtain ⟨x2, hx2, ev2⟩ := pd_get (pdE s1 pd) (i := 2) (e := e1) he1
        refine ⟨_, rfl, a, _, 2, x2, rfl, rfl, SqT.of ha1, atI_nat (j := 2) hx2, x2, _, rfl, tn_of ev2, fun H2 s2 => ⟨_, rfl, ?_⟩⟩
        by_cases hn : nameE (some e1) = true
        · have hnm : (!decide (p.1 = "mount") || nameE es[1]?) = true := by rw [he1, hn, Bool.or_true]
          rw [hn]
          refine iteF ?_
          have s12 := s1.trans s2
          have ha2 := s12 _ _ ha
          have pd2 := pdE s12 pd
          obtain ⟨x1, hx1, ev1⟩ := pd_get pd2 (i := 1) (e := e0) he0
          refine ⟨_, rfl, a, _, 1, x1, rfl, rfl, SqT.of ha2, atI_nat (j := 1) hx1, _, rfl, x1, -most, most, _, rfl, wh_of ev1, _, rfl, ?_⟩
          by_cases hwe : wholeE (some e0) = true
          · have hg : goodT (.tup (.str p.1 :: es)) = true := by
              rw [goodT_eq, hd, Bool.true_and, hnm, Bool.true_and, show es[0]? = some e0 from he0]
              exact hwe
            have gw := hw hg
            rw [hwe]
            refine iteF ?_
            have a0 : atI xs 0 = some (.str p.1) := atI_nat (j := 0) hx0
            refine ⟨⟨_, rfl⟩, _, rfl, a, _, 0, .str p.1, rfl, rfl, SqT.of ha2, a0, p.1, rfl, (hy_ok p hp).1, (by show 1 ≤ sizeLine; decide), fun pl hpl => ?_⟩
            have s3 := same_new (o := HO.lst [V.str (Txt.replace p.1 " " "-")]) hpl
            have ha3 := s3 _ _ ha2
            refine ⟨_, rfl, 1, rfl, a, _, rfl, SqT.of ha3, fun z => ?_, fun p1 hp1 => ?_⟩
            · have z1 := z.1
              have e : HT.sIx xs.length 0 (some 1) = 1 := by
                rw [show xs.length = (xs.length - 1) + 1 from (Nat.succ_pred_eq_of_pos (List.getElem?_eq_some_iff.mp hx0).1).symm]
                exact sIx1 _ _
              rw [e] at z1
              cases z1
            · obtain ⟨xr, exr⟩ : ∃ xr, xs = .str p.1 :: xr := by
                cases xs with
                | nil => cases hx0
                | cons y ys =>
                  cases hx0
                  exact ⟨ys, rfl⟩
              subst exr
              rw [cut_tail]
              have s4 := same_new (o := HO.tup xr) hp1
              have sA := (s12.trans s3).trans s4
              have gl : (upd (upd H2 pl (.lst [.str (Txt.replace p.1 " " "-")])) p1 (.tup xr)) pl = some (.lst [.str (Txt.replace p.1 " " "-")]) := s4 _ _ upd_same
              have g1 : (upd (upd H2 pl (.lst [.str (Txt.replace p.1 " " "-")])) p1 (.tup xr)) p1 = some (.tup xr) := upd_same
              generalize upd (upd H2 pl (.lst [.str (Txt.replace p.1 " " "-")])) p1 (.tup xr) = H3 at sA gl g1 ⊢
              have pdr : Paired (EvAt H) xr es := by
                cases pd with
                | cons _ r => exact r
              have lx := Paired.length pdr
              refine ⟨p1, rfl, ⟨_, SqT.of g1⟩, fun D hD => lc_tup (K := K) (a := p1) (xs := xr) (fun i H' => H' D = some (.lst (((es.map entryT).take i).map V.str)) ∧ Same H3 H') ⟨upd_same, same_new hD⟩ (fun i H' _ h => SqT.of (h.2 _ _ g1)) ?_ ?_⟩
              · rintro i x H4 hx ⟨h3, sm⟩
                obtain ⟨ee, hee, hev⟩ := pd_at (pdE (sA.trans sm) pdr) hx
                have hi := (List.getElem?_eq_some_iff.mp hee).1
                refine ⟨rfl, _, rfl, x, ee, rfl, hev, (gw ee (List.mem_of_getElem? hee)).1, _, h3, small1000 ?_, ?_, same_mut hD sm⟩
                · rw [List.length_map, List.length_take, List.length_map]
                  omega
                · rw [upd_same, take_snoc (x := entryT ee) (by rw [List.getElem?_map, hee]; rfl), List.map_append]
                  rfl
              · rintro H4 ⟨h3, sm⟩
                rw [List.take_of_length_le (by rw [List.length_map, lx]; exact Nat.le_refl _)] at h3
                have gl4 := sm _ _ gl
                refine ⟨pl, D, _, _, rfl, rfl, gl4, h3, ?_, fun pz hpz => ?_⟩
                · rw [List.length_map, List.length_map, hl]
                  exact Nat.le_trans (Nat.add_le_add_left hp3 _) (by show 1 + 3 ≤ sizeLine; decide)
                · refine ⟨" ", pz, wordsOf9 p.1 es, rfl, rfl, .inl (SqL.of ?_), ?_, ?_⟩
                  · rw [upd_same]
                    rfl
                  · exact join_room (hy_ok p hp).2.1 (fun e he => (gw e he).2) (by omega)
                  · exact q1 hg _ ((sA.trans sm).trans (same_new hpz))
          · have hwe' : wholeE (some e0) = false := by simpa using hwe
            have hg : goodT (.tup (.str p.1 :: es)) = false := by
              rw [goodT_eq, hd, Bool.true_and, hnm, Bool.true_and, show es[0]? = some e0 from he0]
              exact hwe'
            rw [hwe']
            exact iteT (q2 hg _ s12)
        · have hn' : nameE (some e1) = false := by simpa using hn
          have hg : goodT (.tup (.str p.1 :: es)) = false := by
            rw [goodT_eq, hd, Bool.true_and, he1, hn', decide_eq_true hm]
            rfl
          rw [hn']
          exact iteT (iteT (q2 hg _ (s1.trans s2)))
      · have hnm : (!decide (p.1 = "mount") || nameE es[1]?) = true := by rw [decide_eq_false hm]; rfl
        rw [decide_eq_false (show ¬ V.str p.1 = V.str "mount" from fun e => hm (V.str.inj e))]
        refine iteF ?_
        have ha2 := s1 _ _ ha
        have pd2 := pdE s1 pd
        obtain ⟨x1, hx1, ev1⟩ := pd_get pd2 (i := 1) (e := e0) he0
        refine ⟨_, rfl, a, _, 1, x1, rfl, rfl, SqT.of ha2, atI_nat (j := 1) hx1, _, rfl, x1, -most, most, _, rfl, wh_of ev1, _, rfl, ?_⟩
        by_cases hwe : wholeE (some e0) = true
        · have hg : goodT (.tup (.str p.1 :: es)) = true := by
            rw [goodT_eq, hd, Bool.true_and, hnm, Bool.true_and, show es[0]? = some e0 from he0]
            exact hwe
          have gw := hw hg
          rw [hwe]
          refine iteF ?_
          have a0 : atI xs 0 = some (.str p.1) := atI_nat (j := 0) hx0
          refine ⟨⟨_, rfl⟩, _, rfl, a, _, 0, .str p.1, rfl, rfl, SqT.of ha2, a0, p.1, rfl, (hy_ok p hp).1, (by show 1 ≤ sizeLine; decide), fun pl hpl => ?_⟩
          have s3 := same_new (o := HO.lst [V.str (Txt.replace p.1 " " "-")]) hpl
          have ha3 := s3 _ _ ha2
          refine ⟨_, rfl, 1, rfl, a, _, rfl, SqT.of ha3, fun z => ?_, fun p1 hp1 => ?_⟩
          · have z1 := z.1
            have e : HT.sIx xs.length 0 (some 1) = 1 := by
              rw [show xs.length = (xs.length - 1) + 1 from (Nat.succ_pred_eq_of_pos (List.getElem?_eq_some_iff.mp hx0).1).symm]
              exact sIx1 _ _
            rw [e] at z1
            cases z1
          · obtain ⟨xr, exr⟩ : ∃ xr, xs = .str p.1 :: xr := by
              cases xs with
              | nil => cases hx0
              | cons y ys =>
                cases hx0
                exact ⟨ys, rfl⟩
            subst exr
            rw [cut_tail]
            have s4 := same_new (o := HO.tup xr) hp1
            have sA := (s1.trans s3).trans s4
            have gl : (upd (upd H1 pl (.lst [.str (Txt.replace p.1 " " "-")])) p1 (.tup xr)) pl = some (.lst [.str (Txt.replace p.1 " " "-")]) := s4 _ _ upd_same
            have g1 : (upd (upd H1 pl (.lst [.str (Txt.replace p.1 " " "-")])) p1 (.tup xr)) p1 = some (.tup xr) := upd_same
            generalize upd (upd H1 pl (.lst [.str (Txt.replace p.1 " " "-")])) p1 (.tup xr) = H3 at sA gl g1 ⊢
            have pdr : Paired (EvAt H) xr es := by
              cases pd with
              | cons _ r => exact r
            have lx := Paired.length pdr
            refine ⟨p1, rfl, ⟨_, SqT.of g1⟩, fun D hD => lc_tup (K := K) (a := p1) (xs := xr) (fun i H' => H' D = some (.lst (((es.map entryT).take i).map V.str)) ∧ Same H3 H') ⟨upd_same, same_new hD⟩ (fun i H' _ h => SqT.of (h.2 _ _ g1)) ?_ ?_⟩
            · rintro i x H4 hx ⟨h3, sm⟩
              obtain ⟨ee, hee, hev⟩ := pd_at (pdE (sA.trans sm) pdr) hx
              have hi := (List.getElem?_eq_some_iff.mp hee).1
              refine ⟨rfl, _, rfl, x, ee, rfl, hev, (gw ee (List.mem_of_getElem? hee)).1, _, h3, small1000 ?_, ?_, same_mut hD sm⟩
              · rw [List.length_map, List.length_take, List.length_map]
                omega
              · rw [upd_same, take_snoc (x := entryT ee) (by rw [List.getElem?_map, hee]; rfl), List.map_append]
                rfl
            · rintro H4 ⟨h3, sm⟩
              rw [List.take_of_length_le (by rw [List.length_map, lx]; exact Nat.le_refl _)] at h3
              have gl4 := sm _ _ gl
              refine ⟨pl, D, _, _, rfl, rfl, gl4, h3, ?_, fun pz hpz => ?_⟩
              · rw [List.length_map, List.length_map, hl]
                exact Nat.le_trans (Nat.add_le_add_left hp3 _) (by show 1 + 3 ≤ sizeLine; decide)
              · refine ⟨" ", pz, wordsOf9 p.1 es, rfl, rfl, .inl (SqL.of ?_), ?_, ?_⟩
                · rw [upd_same]
                  rfl
                · exact join_room (hy_ok p hp).2.1 (fun e he => (gw e he).2) (by omega)
                · exact q1 hg _ ((sA.trans sm).trans (same_new hpz))
        · have hwe' : wholeE (some e0) = false := by simpa using hwe
          have hg : goodT (.tup (.str p.1 :: es)) = false := by
            rw [goodT_eq, hd, Bool.true_and, hnm, Bool.true_and, show es[0]? = some e0 from he0]
            exact hwe'
          rw [hwe']
          exact iteT (q2 hg _ s1)
    · have hd' : deedB t = false := by simpa using hd
      have hg : goodT t = false := by
        cases t with
        | no => rfl
        | tup es =>
          match es with
          | [] => rfl
          | .str z :: r =>
            rw [goodT_eq, hd']
            rfl
          | .int _ :: _ => rfl
          | .bl _ :: _ => rfl
          | .oth :: _ => rfl
      rw [hd']
      exact iteT (iteT (q2 hg _ s1))
end
end K9
set_option Elab.async false
set_option linter.all false
set_option maxRecDepth 100000
set_option maxHeartbeats 8000000
set_option autoImplicit false
/-! the law's texts, plain: words and their joining -/
namespace K9
open PySem PySem.Spec PyProof.Rows L2 Cm Tx
abbrev tl (z : Str) : List Nat := z.cps.toList
theorem S_of (z : Str) : SX.S (tl z) = z := SX.S_tl z
theorem map_S (ws : List Str) : (ws.map tl).map SX.S = ws := by
  rw [List.map_map]
  exact (List.map_congr_left fun z _ => S_of z).trans (List.map_id _)
theorem join_tl (c : Nat) (ws : List Str) : Txt.join (SX.S [c]) ws = SX.S (TL.joinL [c] (ws.map tl)) := by
  have := SX.join_S [c] (ws.map tl)
  rw [map_S] at this
  exact this
theorem split_join {c : Nat} (hc : c < 256) {ws : List Str} (hne : ws ≠ []) (h : ∀ w ∈ ws, c ∉ tl w) : Txt.split (Txt.join (SX.S [c]) ws) (SX.S [c]) = ws := by
  rw [join_tl, SX.split_S (by simp) (by simpa using hc), SX.spl_join (by simpa using hne) (fun p hp => by
    obtain ⟨w, hw, rfl⟩ := List.mem_map.mp hp
    exact h w hw), map_S]
theorem blank : (" " : Str) = SX.S [32] := rfl
theorem slash : ("/" : Str) = SX.S [47] := rfl
theorem split_words {ws : List Str} (hne : ws ≠ []) (h : ∀ w ∈ ws, 32 ∉ tl w) : Txt.split (Txt.join " " ws) " " = ws := split_join (by decide) hne h
theorem joinL_app (c : Nat) : ∀ (l m : List (List Nat)), l ≠ [] → m ≠ [] → TL.joinL [c] (l ++ m) = TL.joinL [c] l ++ c :: TL.joinL [c] m
  | [], _, h, _ => absurd rfl h
  | [p], [], _, h => absurd rfl h
  | [p], q :: r, _, _ => rfl
  | p :: q :: r, m, _, hm => by
    show p ++ ([c] ++ TL.joinL [c] ((q :: r) ++ m)) = (p ++ ([c] ++ TL.joinL [c] (q :: r))) ++ c :: TL.joinL [c] m
    rw [joinL_app c (q :: r) m (by simp) hm]
    simp
theorem joinL_snoc (c : Nat) (l : List (List Nat)) (a x : List Nat) : TL.joinL [c] (l ++ [a ++ x]) = TL.joinL [c] (l ++ [a]) ++ x := by
  cases l with
  | nil => rfl
  | cons p l =>
    rw [joinL_app c _ _ (by simp) (by simp), joinL_app c _ _ (by simp) (by simp)]
    show TL.joinL [c] (p :: l) ++ c :: (a ++ x) = (TL.joinL [c] (p :: l) ++ c :: a) ++ x
    simp
theorem joinL_end (c : Nat) (l : List (List Nat)) (h : l ≠ []) : TL.joinL [c] (l ++ [[]]) = TL.joinL [c] l ++ [c] := joinL_app c l [[]] h (by simp)
theorem joinL_gap (c : Nat) (w : List Nat) (l b : List (List Nat)) : TL.joinL [c] (l ++ (w ++ [c]) :: b) = TL.joinL [c] (l ++ w :: [] :: b) := by
  have h : TL.joinL [c] ((w ++ [c]) :: b) = TL.joinL [c] (w :: [] :: b) := by
    cases b with
    | nil => rfl
    | cons q r =>
      show (w ++ [c]) ++ ([c] ++ TL.joinL [c] (q :: r)) = w ++ ([c] ++ ([] ++ ([c] ++ TL.joinL [c] (q :: r))))
      simp
  cases l with
  | nil => exact h
  | cons p l => rw [joinL_app c _ _ (by simp) (by simp), joinL_app c _ _ (by simp) (by simp), h]
theorem tl_add (a b : Str) : tl (a ++ b) = tl a ++ tl b := TL.tl_append a b
theorem join_snoc (ws : List Str) (w x : Str) : Txt.join " " (ws ++ [w ++ x]) = Txt.join " " (ws ++ [w]) ++ x := by
  rw [blank, join_tl, join_tl, List.map_append, List.map_append, List.map_singleton, List.map_singleton, tl_add, joinL_snoc]
  rw [← S_of x, SX.S_cat, S_of]
theorem join_gap (a : List Str) (w : Str) (b : List Str) : Txt.join " " (a ++ (w ++ " ") :: b) = Txt.join " " (a ++ w :: "" :: b) := by
  rw [blank, join_tl, join_tl, List.map_append, List.map_append, List.map_cons, List.map_cons, List.map_cons, tl_add]
  exact congrArg SX.S (joinL_gap 32 (tl w) (a.map tl) (b.map tl))
theorem join_front (ws : List Str) (h : ws ≠ []) : Str.ofString " " ++ Txt.join " " ws = Txt.join " " ("" :: ws) := by
  rw [show (Str.ofString " ") = SX.S [32] from rfl, join_tl, join_tl, SX.S_cat]
  cases ws with
  | nil => exact absurd rfl h
  | cons v r => rfl
theorem join_back (ws : List Str) (h : ws ≠ []) : Txt.join " " ws ++ Str.ofString " " = Txt.join " " (ws ++ [Str.ofString ""]) := by
  rw [show (Str.ofString " ") = SX.S [32] from rfl, join_tl, join_tl, SX.S_cat, List.map_append]
  exact congrArg SX.S (joinL_end 32 (ws.map tl) (by simpa using h)).symm
/-- between each two words an empty one -/
def gaps : List Str → List Str
  | [] => []
  | [w] => [w]
  | w :: v :: r => w :: "" :: gaps (v :: r)
theorem gaps_len : ∀ (w : Str) (r : List Str), (gaps (w :: r)).length = 2 * r.length + 1
  | w, [] => rfl
  | w, v :: r => by
    show (gaps (v :: r)).length + 1 + 1 = _
    rw [gaps_len v r, List.length_cons]
    omega
theorem gaps_mem : ∀ (ws : List Str) {z : Str}, z ∈ gaps ws → z ∈ ws ∨ z = ""
  | [], z, h => .inl h
  | [w], z, h => .inl h
  | w :: v :: r, z, h => by
    rcases List.mem_cons.mp h with h | h
    · exact .inl (by rw [h]; exact .head _)
    · rcases List.mem_cons.mp h with h | h
      · exact .inr h
      · rcases gaps_mem (v :: r) h with h | h
        · exact .inl (.tail _ h)
        · exact .inr h
theorem gaps_joinL : ∀ ws : List Str, TL.joinL [32, 32] (ws.map tl) = TL.joinL [32] ((gaps ws).map tl)
  | [] => rfl
  | [w] => rfl
  | w :: v :: r => by
    have ih := gaps_joinL (v :: r)
    show tl w ++ ([32, 32] ++ TL.joinL [32, 32] ((v :: r).map tl)) = _
    rw [ih]
    cases e : gaps (v :: r) with
    | nil =>
      have := gaps_len v r
      rw [e] at this
      cases this
    | cons g gs =>
      show tl w ++ ([32, 32] ++ TL.joinL [32] ((g :: gs).map tl)) = TL.joinL [32] ((w :: "" :: gaps (v :: r)).map tl)
      rw [e]
      rfl
theorem replace_gaps {ws : List Str} (hne : ws ≠ []) (h : ∀ w ∈ ws, 32 ∉ tl w) : Txt.replace (Txt.join " " ws) " " "  " = Txt.join " " (gaps ws) := by
  have h1 : Txt.replace (Txt.join " " ws) " " "  " = Str.join "  " (Txt.split (Txt.join " " ws) " ") := PySem.StrLaws.replace_one (Txt.join " " ws) "  " 32
  rw [h1, split_words hne h, ← TL.join_eq]
  have h2 := SX.join_S [32, 32] (ws.map tl)
  rw [map_S] at h2
  show Txt.join (SX.S [32, 32]) ws = _
  rw [h2, gaps_joinL, blank, join_tl]
theorem joinL_mem {c : Nat} : ∀ {l : List (List Nat)} {x : Nat}, x ∈ TL.joinL [c] l → x = c ∨ ∃ p ∈ l, x ∈ p
  | [], x, h => by cases h
  | [p], x, h => .inr ⟨p, .head _, h⟩
  | p :: q :: r, x, h => by
    have h : x ∈ p ++ ([c] ++ TL.joinL [c] (q :: r)) := h
    rw [List.mem_append, List.mem_append] at h
    rcases h with h | h | h
    · exact .inr ⟨p, .head _, h⟩
    · exact .inl (by simpa using h)
    · rcases joinL_mem h with h | ⟨y, hy, h⟩
      · exact .inl h
      · exact .inr ⟨y, .tail _ hy, h⟩
theorem joinL_map {c : Nat} {f : Nat → Nat} (hf : f c = c) : ∀ l : List (List Nat), (TL.joinL [c] l).map f = TL.joinL [c] (l.map (·.map f))
  | [] => rfl
  | [p] => rfl
  | p :: q :: r => by
    show (p ++ ([c] ++ TL.joinL [c] (q :: r))).map f = p.map f ++ ([c] ++ TL.joinL [c] ((q :: r).map (·.map f)))
    rw [List.map_append, List.map_append, joinL_map hf (q :: r), List.map_singleton, hf]
def upW (w : Str) : Str := SX.S ((tl w).map up1)
theorem upper_join {ws : List Str} (h : ∀ w ∈ ws, ∀ c ∈ tl w, c < 128) : Txt.upper (Txt.join " " ws) = Txt.join " " (ws.map upW) := by
  have e1 : Txt.join " " ws = SX.S (TL.joinL [32] (ws.map tl)) := join_tl 32 ws
  have e2 : Txt.join " " (ws.map upW) = SX.S (TL.joinL [32] ((ws.map upW).map tl)) := join_tl 32 _
  have ht : tl (Txt.join " " ws) = TL.joinL [32] (ws.map tl) := by rw [e1]
  rw [upper_ascii (fun c hc => by
    have hc : c ∈ tl (Txt.join " " ws) := hc
    rw [ht] at hc
    rcases joinL_mem hc with h1 | ⟨p, hp, h1⟩
    · omega
    · obtain ⟨w, hw, rfl⟩ := List.mem_map.mp hp
      exact h w hw c h1), e2]
  have e3 : (⟨(Txt.join " " ws).cps.map up1⟩ : Str) = SX.S ((tl (Txt.join " " ws)).map up1) := congrArg Str.mk (by apply Array.toList_inj.mp; simp)
  rw [e3, ht, joinL_map rfl, List.map_map, List.map_map]
  rfl
end K9
set_option Elab.async false
set_option linter.all false
set_option maxRecDepth 100000
set_option maxHeartbeats 8000000
set_option autoImplicit false
/-! the entries of the law's deeds -/
namespace K9
open PySem PySem.Spec PyProof.Rows L2 Cm Tx
def areas : List Int := [0, 1, 7, -3, 10 ^ 20, 1 - 10 ^ 20, 10 ^ 59, -(10 ^ 59)] ++ (List.range 100).map Int.ofNat
def asc (z : Str) : Bool := (tl z).all fun c => decide (c < 128) && decide (c ≠ 32)
def wokB (z : Str) : Bool := figBad z || (decide (z.length ≤ 640) && (match PySem.intText? z with | some n => decide (n.natAbs.log2 < 1920) | none => false))
/-- whether a word is an entry of a sort -/
def okE (z sort : Str) : Bool := entryB (entryE z sort) sort && (!decide (sort = "tree") || nameE (some (entryE z sort)))
def areaB (i : Int) : Bool := decide (wholeO (iS i) = some i) && (decide ((iS i).length ≤ 100) && (wholeE (some (.int i)) && (decide (i.natAbs.log2 < 1920) && (asc (iS i) && (wokB (iS i) && ((!okE (iS i ++ "\n") "space" && !okE (iS i ++ "/") "space") && (figBad (iS i ++ "\n") && figBad (iS i ++ "/"))))))))
theorem areas_ok : ∀ i ∈ areas, areaB i = true := by decide +kernel
def farB (i : Int) : Bool := !okE (iS i) "space" && (decide ((iS i).length ≤ 100) && (!wholeE (some (.int i)) && (decide (i.natAbs.log2 < 1920) && (asc (iS i) && figBad (iS i)))))
theorem far_ok : farB (10 ^ 60) = true ∧ farB (-(10 ^ 60)) = true := by decide +kernel
def namesL : List Str := ["one", "a", "zzzzzzzz", "mount", "yes"]
def oddW : List Str := ["", "x/y", "00", "-0", "+1", "Yes", "1.0", "//", "/a/", "True", "Sharing", Txt.mul "1" 61]
def sorts : List Str := ["space", "tree", "path", "kind", "bool"]
theorem odd_bad : ∀ z ∈ oddW, ∀ s ∈ sorts, okE z s = false := by decide +kernel
theorem odd_wok : ∀ z ∈ oddW, wokB z = true ∧ asc z = true ∧ z.length ≤ 100 ∧ unhy z = none := by decide +kernel
end K9
set_option Elab.async false
set_option linter.all false
set_option maxRecDepth 100000
set_option maxHeartbeats 8000000
set_option autoImplicit false
/-! roads, and what fits a sort -/
namespace K9
open PySem PySem.Spec PyProof.Rows L2 Cm Tx
def roadW : List Str := ["a", "zzzzzzzz", ".", "..", "b", "yes", "no"]
def Road (r : Str) : Prop := ∃ ws : List Str, ws.length ≤ 4 ∧ (∀ w ∈ ws, w ∈ roadW) ∧ r = "/" ++ Txt.join "/" ws
theorem rp_hit (r : List Nat) : Txt.removeprefix (SX.S (47 :: r)) "/" = SX.S r := by
  rw [StrLaws.removeprefix_eq]
  have e1 : ("/" : Str).length = 1 := rfl
  have e2 : (SX.S (47 :: r)).length = r.length + 1 := SX.S_len _
  have h : (decide (0 + ("/" : Str).length ≤ (SX.S (47 :: r)).length) && Builtin.Str.subAt (SX.S (47 :: r)) "/" 0) = true := by
    rw [Bool.and_eq_true, StrLaws.subAt_eq]
    exact ⟨decide_eq_true (by rw [e1, e2]; omega), rfl⟩
  rw [if_pos h, e1, e2]
  show (⟨(List.take (r.length + 1 - 1) (List.drop 1 (47 :: r))).toArray⟩ : Str) = ⟨r.toArray⟩
  rw [List.drop_one, List.tail_cons, Nat.add_sub_cancel, List.take_length]
theorem sw_hit (r : List Nat) : Txt.startswith (SX.S (47 :: r)) "/" = true := by
  have e1 : ("/" : Str).length = 1 := rfl
  have e2 : (SX.S (47 :: r)).length = r.length + 1 := SX.S_len _
  have h : (decide (0 + ("/" : Str).length ≤ (SX.S (47 :: r)).length) && Builtin.Str.subAt (SX.S (47 :: r)) "/" 0) = true := by
    rw [Bool.and_eq_true, StrLaws.subAt_eq]
    exact ⟨decide_eq_true (by rw [e1, e2]; omega), rfl⟩
  exact h
theorem road_S {ws : List Str} : Str.ofString "/" ++ Txt.join "/" ws = SX.S (47 :: TL.joinL [47] (ws.map tl)) := by
  rw [show (Str.ofString "/") = SX.S [47] from rfl, join_tl, SX.S_cat]
  rfl
theorem words_S {ws : List (List Nat)} (hne : ws ≠ []) (h : ∀ w ∈ ws, 47 ∉ w) : Tx.wordsOf (SX.S (47 :: TL.joinL [47] ws)) = ws.map SX.S := by
  unfold Tx.wordsOf
  rw [rp_hit, slash, SX.split_S (by simp) rfl, SX.spl_join hne h]
theorem path_yes {l : List Nat} (h : ((Tx.wordsOf (SX.S (47 :: l))).map wordB).all id = true) : pathB (SX.S (47 :: l)) = true := by
  unfold pathB
  split
  · rename_i e
    have e2 : (47 :: l) = [] := SX.S_inj (a := 47 :: l) (b := []) e
    cases e2
  · split
    · rfl
    · exact h
theorem path_no {l : List Nat} (hl : l ≠ []) (h : ((Tx.wordsOf (SX.S (47 :: l))).map wordB).all id = false) : pathB (SX.S (47 :: l)) = false := by
  unfold pathB
  rw [if_neg, if_neg, h]
  · intro e
    have e2 : (47 :: l) = [47] := SX.S_inj (a := 47 :: l) (b := [47]) e
    exact hl (List.cons.inj e2).2
  · intro e
    have e2 : (47 :: l) = [] := SX.S_inj (a := 47 :: l) (b := []) e
    cases e2
theorem roadW_ok : ∀ w ∈ roadW, wordB w = true ∧ 47 ∉ tl w ∧ wordB (w ++ "\n") = false ∧ 47 ∉ tl (w ++ "\n") ∧ asc w = true ∧ w.length ≤ 8 := by decide +kernel
theorem snoc_of {α : Type} : ∀ {l : List α}, l ≠ [] → ∃ m x, l = m ++ [x]
  | [], h => absurd rfl h
  | a :: r, _ => ⟨(a :: r).dropLast, (a :: r).getLast (by simp), (List.dropLast_concat_getLast (by simp)).symm⟩
theorem joinL_ne {c : Nat} : ∀ {l : List (List Nat)}, l ≠ [] → (∀ p ∈ l, p ≠ []) → TL.joinL [c] l ≠ []
  | [], h, _ => absurd rfl h
  | [p], _, h => h p (.head _)
  | p :: q :: r, _, h => fun e => h p (.head _) (by
      have e : p ++ ([c] ++ TL.joinL [c] (q :: r)) = [] := e
      exact (List.append_eq_nil_iff.mp e).1)
theorem roadW_ne : ∀ w ∈ roadW, tl w ≠ [] := by decide +kernel
theorem entryE_path (z : Str) : entryE z "path" = .str z := by
  unfold entryE
  rw [if_neg (by decide +kernel), if_neg (by decide +kernel)]
theorem okE_path_eq (z : Str) : okE z "path" = (pathB z && Txt.startswith z "/") := by
  unfold okE
  rw [entryE_path]
  have e2 : entryB (.str z) "path" = (pathB z && Txt.startswith z "/") := by
    unfold entryB
    rw [if_pos rfl]
  have e3 : (!decide (Str.ofString "path" = Str.ofString "tree")) = true := by decide +kernel
  rw [e2, e3, Bool.true_or, Bool.and_true]
theorem road_path {r : Str} (h : Road r) : okE r "path" = true := by
  obtain ⟨ws, _, hw, rfl⟩ := h
  rw [road_S]
  rw [okE_path_eq, sw_hit, Bool.and_true]
  have : pathB (SX.S (47 :: TL.joinL [47] (ws.map tl))) = true := by
    by_cases hne : ws = []
    · subst hne
      decide +kernel
    · refine path_yes ?_
      rw [words_S (by simpa using hne) (fun p hp => by
        obtain ⟨w, hm, rfl⟩ := List.mem_map.mp hp
        exact (roadW_ok w (hw w hm)).2.1), map_S, List.all_map, List.all_eq_true]
      exact fun w hm => (roadW_ok w (hw w hm)).1
  exact this
theorem okE_path {z : Str} (h : pathB z = false) : okE z "path" = false := by
  rw [okE_path_eq, h, Bool.false_and]
theorem road_nl {r : Str} (h : Road r) : okE (r ++ "\n") "path" = false := by
  obtain ⟨ws, _, hw, rfl⟩ := h
  refine okE_path ?_
  rw [road_S, show Str.ofString "\n" = SX.S [10] from rfl, SX.S_cat, List.cons_append]
  by_cases hne : ws = []
  · subst hne
    decide +kernel
  · obtain ⟨m, w, rfl⟩ := snoc_of hne
    have e : TL.joinL [47] ((m ++ [w]).map tl) ++ [10] = TL.joinL [47] ((m ++ [w ++ "\n"]).map tl) := by
      rw [List.map_append, List.map_append, List.map_singleton, List.map_singleton, tl_add]
      exact (joinL_snoc 47 (m.map tl) (tl w) [10]).symm
    rw [e]
    have hw1 := roadW_ok w (hw w (by simp))
    refine path_no (joinL_ne (by simp) fun p hp => ?_) ?_
    · obtain ⟨v, hm, rfl⟩ := List.mem_map.mp hp
      rw [List.mem_append] at hm
      rcases hm with hm | hm
      · exact roadW_ne v (hw v (List.mem_append_left _ hm))
      · rw [List.mem_singleton.mp hm, tl_add]
        intro z
        exact roadW_ne w (hw w (by simp)) (List.append_eq_nil_iff.mp z).1
    · rw [words_S (by simp) (fun p hp => by
        obtain ⟨v, hm, rfl⟩ := List.mem_map.mp hp
        rw [List.mem_append] at hm
        rcases hm with hm | hm
        · exact (roadW_ok v (hw v (List.mem_append_left _ hm))).2.1
        · rw [List.mem_singleton.mp hm]
          exact hw1.2.2.2.1), map_S, List.all_map, List.all_append]
      have : ([w ++ Str.ofString "\n"].all (id ∘ wordB)) = false := by
        show (wordB (w ++ Str.ofString "\n") && true) = false
        rw [hw1.2.2.1]
        rfl
      rw [this, Bool.and_false]
theorem road_sl {r : Str} (h : Road r) : okE (r ++ "/") "path" = false := by
  obtain ⟨ws, _, hw, rfl⟩ := h
  refine okE_path ?_
  rw [road_S, show Str.ofString "/" = SX.S [47] from rfl, SX.S_cat, List.cons_append]
  by_cases hne : ws = []
  · subst hne
    decide +kernel
  · have e : TL.joinL [47] (ws.map tl) ++ [47] = TL.joinL [47] (ws.map tl ++ [[]]) := (joinL_end 47 _ (by simpa using hne)).symm
    rw [e]
    refine path_no ?_ ?_
    · rw [← e]
      simp
    · rw [words_S (by simp) (fun p hp => by
        rw [List.mem_append] at hp
        rcases hp with hp | hp
        · obtain ⟨v, hm, rfl⟩ := List.mem_map.mp hp
          exact (roadW_ok v (hw v hm)).2.1
        · rw [List.mem_singleton.mp hp]
          simp), List.map_append, List.map_append, List.all_append]
      have : (([[]] : List (List Nat)).map SX.S |>.map wordB).all id = false := by decide +kernel
      rw [this, Bool.and_false]
theorem road_asc {r : Str} (h : Road r) : asc r = true ∧ r.length ≤ 100 := by
  obtain ⟨ws, hl, hw, rfl⟩ := h
  rw [road_S]
  constructor
  · unfold asc
    rw [List.all_eq_true]
    intro c hc
    have hc : c ∈ 47 :: TL.joinL [47] (ws.map tl) := hc
    rcases List.mem_cons.mp hc with e | e
    · rw [e]
      rfl
    · rcases joinL_mem e with e | ⟨p, hp, e⟩
      · rw [e]
        rfl
      · obtain ⟨w, hm, rfl⟩ := List.mem_map.mp hp
        have := (roadW_ok w (hw w hm)).2.2.2.2.1
        exact List.all_eq_true.mp this c e
  · rw [SX.S_len, List.length_cons]
    have : ∀ l : List Str, (∀ w ∈ l, w ∈ roadW) → (TL.joinL [47] (l.map tl)).length ≤ 9 * l.length := by
      intro l
      induction l with
      | nil => intro _; exact Nat.le_refl _
      | cons a r ih =>
        intro hh
        have h8 : (tl a).length ≤ 8 := by
          have := (roadW_ok a (hh a (.head _))).2.2.2.2.2
          exact this
        have h9 := ih fun w hw => hh w (.tail _ hw)
        cases r with
        | nil =>
          show (tl a).length ≤ 9 * 1
          omega
        | cons b r =>
          show (tl a ++ ([47] ++ TL.joinL [47] ((b :: r).map tl))).length ≤ _
          rw [List.length_append, List.length_append, List.length_cons, List.length_nil, List.length_cons]
          omega
    have := this ws hw
    omega
end K9
set_option Elab.async false
set_option linter.all false
set_option maxRecDepth 100000
set_option maxHeartbeats 8000000
set_option autoImplicit false
/-! what fits, what is read -/
namespace K9
open PySem PySem.Spec PyProof.Rows L2 Cm Tx
inductive Fits : EV → Str → Prop
  | space (i : Int) (h : i ∈ areas) : Fits (.int i) "space"
  | tree (z : Str) (h : z ∈ namesL) : Fits (.str z) "tree"
  | path (z : Str) (h : Road z) : Fits (.str z) "path"
  | kind (z : Str) (h : z ∈ kindsL) : Fits (.str z) "kind"
  | bool (b : Bool) : Fits (.bl b) "bool"
def nameB2 (z : Str) : Bool := okE z "tree" && (asc z && (decide (z.length ≤ 100) && (!okE (z ++ "\n") "tree" && (!okE (z ++ "/") "tree" && nameB z))))
theorem names_ok : ∀ z ∈ namesL, nameB2 z = true := by decide +kernel
def kindB2 (z : Str) : Bool := okE z "kind" && (asc z && (decide (z.length ≤ 100) && (!okE (z ++ "\n") "kind" && !okE (z ++ "/") "kind")))
theorem kinds_ok : ∀ z ∈ kindsL, kindB2 z = true := by decide +kernel
def boolB2 (b : Bool) : Bool := okE (entryT (.bl b)) "bool" && (asc (entryT (.bl b)) && (decide ((entryT (.bl b)).length ≤ 100) && ((!okE (entryT (.bl b) ++ "\n") "bool" && !okE (entryT (.bl b) ++ "/") "bool") && decide (entryE (entryT (.bl b)) "bool" = .bl b))))
theorem bools_ok : ∀ b, boolB2 b = true := by decide +kernel
theorem entryE_kind (z : Str) : entryE z "kind" = .str z := by
  unfold entryE
  rw [if_neg (by decide +kernel), if_neg (by decide +kernel)]
theorem entryE_tree (z : Str) : entryE z "tree" = .str z := by
  unfold entryE
  rw [if_neg (by decide +kernel), if_neg (by decide +kernel)]
theorem entryE_space (z : Str) : entryE z "space" = match wholeO z with | some i => .int i | none => .oth := by
  unfold entryE
  rw [if_pos rfl]
  first
    | done
    | (cases wholeO z <;> rfl)
/-- what is known of an entry that fits -/
structure FitsOk (e : EV) (s : Str) : Prop where
  back : entryE (entryT e) s = e
  ok : okE (entryT e) s = true
  asc : asc (entryT e) = true
  len : (entryT e).length ≤ 100
  wok : s = "space" → wokB (entryT e) = true
  eok : EOk e
  nl : okE (entryT e ++ "\n") s = false
  sl : okE (entryT e ++ "/") s = false
  wnl : s = "space" → figBad (entryT e ++ "\n") = true
  wsl : s = "space" → figBad (entryT e ++ "/") = true
theorem fits_ok {e : EV} {s : Str} (h : Fits e s) : FitsOk e s := by
  have ne : ∀ {a b : Str} {P : Prop}, a ≠ b → a = b → P := fun h e => absurd e h
  cases h with
  | space i h =>
    have a := areas_ok i h
    unfold areaB at a
    simp only [Bool.and_eq_true, decide_eq_true_eq, Bool.not_eq_true'] at a
    obtain ⟨a1, a2, a3, a4, a5, a6, ⟨a7, a8⟩, a9, a10⟩ := a
    have b1 : entryE (iS i) "space" = .int i := by rw [entryE_space, a1]
    refine ⟨b1, ?_, a5, a2, fun _ => a6, a4, a7, a8, fun _ => a9, fun _ => a10⟩
    show okE (iS i) "space" = true
    unfold okE
    rw [b1]
    rfl
  | tree z h =>
    have a := names_ok z h
    unfold nameB2 at a
    simp only [Bool.and_eq_true, decide_eq_true_eq, Bool.not_eq_true'] at a
    obtain ⟨a1, a2, a3, a4, a5, a6⟩ := a
    exact ⟨entryE_tree z, a1, a2, a3, ne (by decide +kernel), trivial, a4, a5, ne (by decide +kernel), ne (by decide +kernel)⟩
  | path z h => exact ⟨entryE_path z, road_path h, (road_asc h).1, (road_asc h).2, ne (by decide +kernel), trivial, road_nl h, road_sl h, ne (by decide +kernel), ne (by decide +kernel)⟩
  | kind z h =>
    have a := kinds_ok z h
    unfold kindB2 at a
    simp only [Bool.and_eq_true, decide_eq_true_eq, Bool.not_eq_true'] at a
    obtain ⟨a1, a2, a3, a4, a5⟩ := a
    exact ⟨entryE_kind z, a1, a2, a3, ne (by decide +kernel), trivial, a4, a5, ne (by decide +kernel), ne (by decide +kernel)⟩
  | bool b =>
    have a := bools_ok b
    unfold boolB2 at a
    simp only [Bool.and_eq_true, decide_eq_true_eq, Bool.not_eq_true'] at a
    obtain ⟨a1, a2, a3, ⟨a4, a5⟩, a6⟩ := a
    exact ⟨a6, a1, a2, a3, ne (by decide +kernel), trivial, a4, a5, ne (by decide +kernel), ne (by decide +kernel)⟩
theorem form_facts : ∀ p ∈ formsL, unhy (hyW p.1) = some p.1 ∧ formOf p.1 = some p.2 ∧ (p.2[0]? : Option Str) = some "space" ∧ (p.2.drop 1).all (fun s => !decide (s = "space")) = true ∧ asc (hyW p.1) = true ∧ (hyW p.1).length ≤ 100 ∧ unhy (upW (hyW p.1)) = none ∧ unhy (hyW p.1 ++ "\n") = none ∧ unhy (hyW p.1 ++ "/") = none ∧ (∀ s ∈ p.2, s ∈ sorts) := by decide +kernel
theorem form_tree : ∀ p ∈ formsL, (p.1 = "mount" ∧ p.2 = (["space", "tree", "path"] : List Str)) ∨ (p.1 ≠ "mount" ∧ ∀ s ∈ p.2, s ≠ "tree") := by decide +kernel
theorem deedB_form {p : Str × List Str} (h : p ∈ formsL) (es : List EV) : deedB (.tup (.str p.1 :: es)) = if es.length = p.2.length then ((es.zip p.2).map fun q => entryB q.1 q.2).all id else false := by
  rw [deedB_str, (form_facts p h).2.1]
/-- entries and sorts: each allowed, and a name where a name is due -/
def fitB (e : EV) (s : Str) : Bool := entryB e s && (!decide (s = "tree") || nameE (some e))
theorem goodW_form {p : Str × List Str} (h : p ∈ formsL) {es : List EV} (hl : es.length = p.2.length) : goodW p.1 es = ((es.zip p.2).map fun q => fitB q.1 q.2).all id := by
  unfold goodW
  rw [deedB_form h, if_pos hl]
  rcases form_tree p h with ⟨e1, e2⟩ | ⟨e1, e2⟩
  · rw [e1, e2]
    rw [e2] at hl
    match es, hl with
    | [a, b, c], _ =>
      have t1 : (!decide (Str.ofString "space" = Str.ofString "tree")) = true := by decide +kernel
      have t2 : (!decide (Str.ofString "path" = Str.ofString "tree")) = true := by decide +kernel
      have t3 : (!decide (Str.ofString "tree" = Str.ofString "tree")) = false := by decide +kernel
      have t4 : (!decide (Str.ofString "mount" = Str.ofString "mount")) = false := by decide +kernel
      show ((entryB a "space" && (entryB b "tree" && (entryB c "path" && true))) && ((!decide (Str.ofString "mount" = Str.ofString "mount")) || nameE (some b))) = (fitB a "space" && (fitB b "tree" && (fitB c "path" && true)))
      unfold fitB
      rw [t1, t2, t3, t4]
      cases entryB a "space" <;> cases entryB b "tree" <;> cases entryB c "path" <;> cases nameE (some b) <;> rfl
  · rw [decide_eq_false e1, Bool.not_false, Bool.true_or, Bool.and_true]
    congr 1
    refine List.map_congr_left fun q hq => ?_
    unfold fitB
    rw [decide_eq_false (e2 q.2 (List.of_mem_zip hq).2), Bool.not_false, Bool.true_or, Bool.and_true]
theorem readW_form {p : Str × List Str} (h : p ∈ formsL) (ws : List Str) : readW (hyW p.1 :: ws) = if ws.length = p.2.length then (if goodW p.1 (entsOf ws p.2) = true then some (.str p.1 :: entsOf ws p.2) else none) else none :=
  readW_some (form_facts p h).1 (form_facts p h).2.1
theorem read_len {p : Str × List Str} (h : p ∈ formsL) {ws : List Str} (hl : ws.length ≠ p.2.length) : readW (hyW p.1 :: ws) = none := by
  rw [readW_form h, if_neg hl]
theorem read_bad {p : Str × List Str} (h : p ∈ formsL) {ws : List Str} {i : Nat} {z s : Str} (hz : ws[i]? = some z) (hs : p.2[i]? = some s) (hb : okE z s = false) : readW (hyW p.1 :: ws) = none := by
  rw [readW_form h]
  by_cases hl : ws.length = p.2.length
  · rw [if_pos hl, if_neg]
    rw [goodW_form h (ents_len hl)]
    intro ht
    have := List.all_eq_true.mp ht (fitB (entryE z s) s) (List.mem_map.mpr ⟨(entryE z s, s), List.mem_iff_getElem?.mpr ⟨i, List.getElem?_zip_eq_some.mpr ⟨ents_at hz hs, hs⟩⟩, rfl⟩)
    have e : fitB (entryE z s) s = okE z s := rfl
    rw [id, e, hb] at this
    cases this
  · rw [if_neg hl]
theorem ents_back : ∀ {es : List EV} {fm : List Str}, Paired Fits es fm → entsOf (es.map entryT) fm = es
  | _, _, .nil => rfl
  | _, _, .cons a r => by
    have := ents_back r
    unfold entsOf at this ⊢
    rw [List.map_cons, List.zip_cons_cons, List.map_cons, this, (fits_ok a).back]
theorem pd_fit : ∀ {es : List EV} {fm : List Str}, Paired Fits es fm → ∀ {i : Nat} {e : EV} {s : Str}, es[i]? = some e → fm[i]? = some s → Fits e s
  | _, _, .nil, i, e, s, h, _ => by cases h
  | _, _, .cons a r, 0, e, s, h1, h2 => by
    cases h1
    cases h2
    exact a
  | _, _, .cons a r, i + 1, e, s, h1, h2 => pd_fit r (i := i) h1 h2
theorem read_good {p : Str × List Str} (h : p ∈ formsL) {es : List EV} (hf : Paired Fits es p.2) : readW (wordsOf9 p.1 es) = some (.str p.1 :: es) := by
  have hl := Paired.length hf
  unfold wordsOf9
  rw [readW_form h, if_pos (by rw [List.length_map, hl]), ents_back hf, if_pos]
  rw [goodW_form h hl, List.all_map, List.all_eq_true]
  intro q hq
  obtain ⟨i, hi⟩ := List.mem_iff_getElem?.mp hq
  obtain ⟨h1, h2⟩ := List.getElem?_zip_eq_some.mp hi
  have f := fits_ok (pd_fit hf h1 h2)
  have : okE (entryT q.1) q.2 = fitB (entryE (entryT q.1) q.2) q.2 := rfl
  rw [f.back, f.ok] at this
  exact this.symm
/-- the words' blanks -/
theorem words_asc {p : Str × List Str} (h : p ∈ formsL) {es : List EV} (hf : Paired Fits es p.2) : ∀ w ∈ wordsOf9 p.1 es, asc w = true ∧ w.length ≤ 100 := by
  intro w hw
  rcases List.mem_cons.mp hw with e | e
  · rw [e]
    exact ⟨(form_facts p h).2.2.2.2.1, (form_facts p h).2.2.2.2.2.1⟩
  · obtain ⟨ee, he, rfl⟩ := List.mem_map.mp e
    obtain ⟨i, hi⟩ := List.mem_iff_getElem?.mp he
    have hlt : i < p.2.length := by
      have := (List.getElem?_eq_some_iff.mp hi).1
      rw [Paired.length hf] at this
      exact this
    have f := fits_ok (pd_fit hf hi (List.getElem?_eq_getElem hlt))
    exact ⟨f.asc, f.len⟩
theorem asc_no {w : Str} (h : asc w = true) : 32 ∉ tl w := fun hm => by
  have := List.all_eq_true.mp h 32 hm
  simp at this
theorem asc_lt {w : Str} (h : asc w = true) : ∀ c ∈ tl w, c < 128 := fun c hc => by
  have := List.all_eq_true.mp h c hc
  rw [Bool.and_eq_true, decide_eq_true_eq] at this
  exact this.1
theorem wok_of {z : Str} (h : wokB z = true) (hl : z.length ≤ 100000) : WOk z := by
  refine ⟨hl, fun hf => ?_⟩
  unfold wokB at h
  rw [hf, Bool.false_or, Bool.and_eq_true, decide_eq_true_eq] at h
  obtain ⟨h1, h2⟩ := h
  refine ⟨h1, ?_⟩
  cases e : PySem.intText? z with
  | none =>
    rw [e] at h2
    cases h2
  | some n =>
    rw [e] at h2
    exact ⟨n, rfl, of_decide_eq_true h2⟩
/-- the only word of a space is the first -/
theorem wsOk_of {p : Str × List Str} (h : p ∈ formsL) {ws : List Str} (hw : ∀ z, ws[0]? = some z → WOk z) : WsOk (hyW p.1 :: ws) := by
  intro v rest word fm e hu hf hl z sort hz hs
  cases e
  rw [(form_facts p h).1] at hu
  cases hu
  rw [(form_facts p h).2.1] at hf
  cases hf
  subst hs
  obtain ⟨i, hi⟩ := List.mem_iff_getElem?.mp hz
  obtain ⟨h1, h2⟩ := List.getElem?_zip_eq_some.mp hi
  match i, h1, h2 with
  | 0, h1, h2 => exact hw _ h1
  | i + 1, h1, h2 =>
    have hd := (form_facts p h).2.2.2.1
    have : (p.2.drop 1)[i]? = some (Str.ofString "space") := by rw [List.getElem?_drop, Nat.add_comm]; exact h2
    have := List.all_eq_true.mp hd _ (List.mem_of_getElem? this)
    exact absurd this (by decide +kernel)
theorem wsOk_no {v : Str} {ws : List Str} (h : unhy v = none) : WsOk (v :: ws) := by
  intro v' rest word fm e hu
  cases e
  rw [h] at hu
  cases hu
theorem wsOk_len {p : Str × List Str} (h : p ∈ formsL) {ws : List Str} (hl : ws.length ≠ p.2.length) : WsOk (hyW p.1 :: ws) := by
  intro v rest word fm e hu hf hl'
  cases e
  rw [(form_facts p h).1] at hu
  cases hu
  rw [(form_facts p h).2.1] at hf
  cases hf
  exact absurd hl' hl
end K9
set_option Elab.async false
set_option linter.all false
set_option maxRecDepth 100000
set_option maxHeartbeats 8000000
set_option autoImplicit false
/-! texts that are spoilt -/
namespace K9
open PySem PySem.Spec PyProof.Rows L2 Cm Tx
def Bad9 (z : Str) : Prop := z.length ≤ 90000 ∧ WsOk (Txt.split z " ") ∧ readW (Txt.split z " ") = none
theorem joinL_len (c : Nat) : ∀ l : List (List Nat), (TL.joinL [c] l).length ≤ (l.map (·.length)).sum + l.length
  | [] => Nat.zero_le _
  | [p] => by
    show p.length ≤ _
    rw [List.map_singleton, List.sum_singleton]
    exact Nat.le_add_right _ _
  | p :: q :: r => by
    have ih := joinL_len c (q :: r)
    show (p ++ ([c] ++ TL.joinL [c] (q :: r))).length ≤ _
    rw [List.length_append, List.length_append, List.map_cons, List.sum_cons, List.length_cons (as := q :: r), List.length_singleton]
    omega
theorem sum_le {α : Type} (f : α → Nat) (B : Nat) : ∀ l : List α, (∀ x ∈ l, f x ≤ B) → (l.map f).sum ≤ B * l.length
  | [], _ => Nat.zero_le _
  | a :: r, h => by
    have h1 := h a (.head _)
    have h2 := sum_le f B r fun x hx => h x (.tail _ hx)
    rw [List.map_cons, List.sum_cons, List.length_cons, Nat.mul_succ]
    omega
theorem join_short {us : List Str} (hl : us.length ≤ 10) (h : ∀ w ∈ us, w.length ≤ 5100) : (Txt.join " " us).length ≤ 90000 := by
  have e : Txt.join " " us = SX.S (TL.joinL [32] (us.map tl)) := join_tl 32 us
  rw [e, SX.S_len]
  have h1 := joinL_len 32 (us.map tl)
  have h2 := sum_le (·.length) 5100 (us.map tl) fun p hp => by
    obtain ⟨w, hw, rfl⟩ := List.mem_map.mp hp
    exact h w hw
  rw [List.length_map] at h1 h2
  omega
theorem bad_words {us : List Str} (hne : us ≠ []) (hl : us.length ≤ 10) (h : ∀ w ∈ us, 32 ∉ tl w ∧ w.length ≤ 5100) (hw : WsOk us) (hr : readW us = none) : Bad9 (Txt.join " " us) := by
  have e := split_words hne fun w hm => (h w hm).1
  exact ⟨join_short hl fun w hm => (h w hm).2, by rw [e]; exact hw, by rw [e]; exact hr⟩
/-- the seven times five thousand -/
def big7 : Str := Txt.mul "7" 5000
theorem big7_len : big7.length ≤ 5100 := by decide +kernel
theorem big7_asc : asc big7 = true := by decide +kernel
theorem big7_no : unhy big7 = none := by decide +kernel
theorem big7_fig : figBad big7 = true := by decide +kernel
theorem big7_sw : Txt.startswith big7 "/" = false := by decide +kernel
theorem big7_kind : okE big7 "kind" = false ∧ okE big7 "bool" = false ∧ okE big7 "tree" = false ∧ okE big7 "space" = false := by decide +kernel
theorem big7_bad : ∀ s ∈ sorts, okE big7 s = false := by
  intro s hs
  simp only [sorts, List.mem_cons, List.not_mem_nil, or_false] at hs
  rcases hs with rfl | rfl | rfl | rfl | rfl
  · exact big7_kind.2.2.2
  · exact big7_kind.2.2.1
  · rw [okE_path_eq, big7_sw, Bool.and_false]
  · exact big7_kind.1
  · exact big7_kind.2.1
theorem area_no : ∀ i ∈ areas, unhy (iS i) = none := by decide +kernel
section
variable {p : Str × List Str} {es : List EV} (h : p ∈ formsL) (hf : Paired Fits es p.2)
include h hf
theorem ws_len : (wordsOf9 p.1 es).length = p.2.length + 1 := by
  unfold wordsOf9
  rw [List.length_cons, List.length_map, Paired.length hf]
theorem ws_w : ∀ w ∈ wordsOf9 p.1 es, 32 ∉ tl w ∧ w.length ≤ 5100 := fun w hw => ⟨asc_no (words_asc h hf w hw).1, Nat.le_trans (words_asc h hf w hw).2 (by decide)⟩
theorem p3 : p.2.length ≤ 3 ∧ 2 ≤ p.2.length := by
  have : ∀ p ∈ formsL, p.2.length ≤ 3 ∧ 2 ≤ p.2.length := by decide +kernel
  exact this p h
/-- the first entry's word is that of a space -/
theorem wok0 : ∀ z, (es.map entryT)[0]? = some z → WOk z := by
  intro z hz
  rw [List.getElem?_map] at hz
  cases e : es[0]? with
  | none =>
    rw [e] at hz
    cases hz
  | some e0 =>
    rw [e] at hz
    cases hz
    have f := fits_ok (pd_fit hf e (form_facts p h).2.2.1)
    exact wok_of (f.wok rfl) (Nat.le_trans f.len (by decide))
/-- a word more -/
theorem sp_more (x : Str) (hx : x ∈ (["x", "", "0", "/a"] : List Str)) : Bad9 (Txt.join " " (wordsOf9 p.1 es ++ [x])) := by
  have hx2 : 32 ∉ tl x ∧ x.length ≤ 5100 := by
    have : ∀ x ∈ (["x", "", "0", "/a"] : List Str), 32 ∉ tl x ∧ x.length ≤ 5100 := by decide +kernel
    exact this x hx
  have hl : (es.map entryT ++ [x]).length ≠ p.2.length := by
    rw [List.length_append, List.length_map, Paired.length hf, List.length_singleton]
    omega
  refine bad_words (by simp) ?_ (fun w hw => ?_) (wsOk_len h hl) (read_len h hl)
  · rw [List.length_append, ws_len h hf, List.length_singleton]
    have := (p3 h hf).1
    omega
  · rcases List.mem_append.mp hw with hw | hw
    · exact ws_w h hf w hw
    · rw [List.mem_singleton.mp hw]
      exact hx2
/-- a word less -/
theorem sp_less {i : Nat} (hi : i < p.2.length + 1) : Bad9 (Txt.join " " ((wordsOf9 p.1 es).take i ++ (wordsOf9 p.1 es).drop (i + 1))) := by
  have hp := p3 h hf
  have hlen := Paired.length hf
  have hw : ∀ w ∈ (wordsOf9 p.1 es).take i ++ (wordsOf9 p.1 es).drop (i + 1), 32 ∉ tl w ∧ w.length ≤ 5100 := fun w hw => by
    rcases List.mem_append.mp hw with hw | hw
    · exact ws_w h hf w (List.mem_of_mem_take hw)
    · exact ws_w h hf w (List.mem_of_mem_drop hw)
  match i, hi with
  | 0, _ =>
    match es, hf, hlen, hw with
    | [], _, hlen, _ =>
      have := hp.2
      rw [← hlen] at this
      cases this
    | e0 :: er, hf, hlen, hw =>
      have hn : unhy (entryT e0) = none := by
        have f0 := pd_fit (i := 0) hf rfl (form_facts p h).2.2.1
        cases f0 with
        | space i hi => exact area_no i hi
      refine bad_words (us := entryT e0 :: er.map entryT) (by simp) ?_ hw (wsOk_no hn) (readW_none hn)
      rw [List.length_cons, List.length_map]
      rw [List.length_cons] at hlen
      omega
  | i + 1, hi =>
    have hl : ((es.map entryT).take i ++ (es.map entryT).drop (i + 1)).length ≠ p.2.length := by
      rw [List.length_append, List.length_take, List.length_drop, List.length_map, hlen]
      omega
    refine bad_words (us := hyW p.1 :: ((es.map entryT).take i ++ (es.map entryT).drop (i + 1))) (by simp) ?_ hw (wsOk_len h hl) (read_len h hl)
    rw [List.length_cons, List.length_append, List.length_take, List.length_drop, List.length_map, hlen]
    omega
end
end K9
set_option Elab.async false
set_option linter.all false
set_option maxRecDepth 100000
set_option maxHeartbeats 8000000
set_option autoImplicit false
/-! texts that are spoilt: one word otherwise -/
namespace K9
open PySem PySem.Spec PyProof.Rows L2 Cm Tx
theorem up_blank : ∀ c, c < 128 → c ≠ 32 → up1 c ≠ 32 := by decide +kernel
theorem fig_wok {z : Str} (h : figBad z = true) (hl : z.length ≤ 100000) : WOk z := ⟨hl, fun e => by rw [h] at e; cases e⟩
section
variable {p : Str × List Str} {es : List EV} (h : p ∈ formsL) (hf : Paired Fits es p.2)
include h hf
theorem sp_put {i : Nat} {z : Str} (hi : i < p.2.length + 1) (hz : 32 ∉ tl z ∧ z.length ≤ 5100) (h0 : i = 0 → unhy z = none) (h1 : ∀ j s, i = j + 1 → p.2[j]? = some s → okE z s = false ∧ (s = "space" → WOk z)) :
    Bad9 (Txt.join " " (((wordsOf9 p.1 es).take i ++ [z]) ++ (wordsOf9 p.1 es).drop (i + 1))) := by
  have hp := p3 h hf
  have hlen := Paired.length hf
  have hw : ∀ w ∈ ((wordsOf9 p.1 es).take i ++ [z]) ++ (wordsOf9 p.1 es).drop (i + 1), 32 ∉ tl w ∧ w.length ≤ 5100 := fun w hw => by
    rcases List.mem_append.mp hw with hw | hw
    · rcases List.mem_append.mp hw with hw | hw
      · exact ws_w h hf w (List.mem_of_mem_take hw)
      · rw [List.mem_singleton.mp hw]
        exact hz
    · exact ws_w h hf w (List.mem_of_mem_drop hw)
  have hl10 : (((wordsOf9 p.1 es).take i ++ [z]) ++ (wordsOf9 p.1 es).drop (i + 1)).length ≤ 10 := by
    rw [List.length_append, List.length_append, List.length_take, List.length_drop, ws_len h hf, List.length_singleton]
    omega
  match i, hi, h0, h1, hw, hl10 with
  | 0, _, h0, _, hw, hl10 => exact bad_words (us := z :: es.map entryT) (by simp) hl10 hw (wsOk_no (h0 rfl)) (readW_none (h0 rfl))
  | j + 1, hi, _, h1, hw, hl10 =>
    have hj : j < p.2.length := by omega
    obtain ⟨s, hs⟩ : ∃ s, p.2[j]? = some s := ⟨_, List.getElem?_eq_getElem hj⟩
    obtain ⟨hb, hk⟩ := h1 j s rfl hs
    have hjt : ((es.map entryT).take j).length = j := by
      rw [List.length_take, List.length_map, hlen]
      omega
    have hz2 : (((es.map entryT).take j ++ [z]) ++ (es.map entryT).drop (j + 1))[j]? = some z := by
      rw [List.getElem?_append_left (by rw [List.length_append, hjt, List.length_singleton]; omega), List.getElem?_append_right (by omega), hjt, Nat.sub_self]
      rfl
    refine bad_words (us := hyW p.1 :: (((es.map entryT).take j ++ [z]) ++ (es.map entryT).drop (j + 1))) (by simp) hl10 hw (wsOk_of h fun y hy => ?_) (read_bad h hz2 hs hb)
    match j, hs, hy, hk, hjt with
    | 0, hs, hy, hk, _ =>
      cases hy
      rw [(form_facts p h).2.2.1] at hs
      exact hk (Option.some.inj hs).symm
    | j + 1, hs, hy, hk, hjt =>
      refine wok0 h hf y ?_
      rw [← hy, List.append_assoc, List.getElem?_append_left (by rw [hjt]; omega), List.getElem?_take_of_lt (by omega)]
/-- an odd word -/
theorem sp_odd {i : Nat} {z : Str} (hi : i < p.2.length + 1) (hz : z ∈ oddW ∨ z = big7) : Bad9 (Txt.join " " (((wordsOf9 p.1 es).take i ++ [z]) ++ (wordsOf9 p.1 es).drop (i + 1))) := by
  have hs : ∀ j s, i = j + 1 → p.2[j]? = some s → s ∈ sorts := fun j s _ e => (form_facts p h).2.2.2.2.2.2.2.2.2 s (List.mem_of_getElem? e)
  rcases hz with hz | rfl
  · have a := odd_wok z hz
    exact sp_put h hf hi ⟨asc_no a.2.1, Nat.le_trans a.2.2.1 (by decide)⟩ (fun _ => a.2.2.2) fun j s e1 e2 => ⟨odd_bad z hz s (hs j s e1 e2), fun _ => wok_of a.1 (Nat.le_trans a.2.2.1 (by decide))⟩
  · exact sp_put h hf hi ⟨asc_no big7_asc, big7_len⟩ (fun _ => big7_no) fun j s e1 e2 => ⟨big7_bad s (hs j s e1 e2), fun _ => fig_wok big7_fig (Nat.le_trans big7_len (by decide))⟩
/-- a number too far -/
theorem sp_far {i : Int} (hi : i = 10 ^ 60 ∨ i = -(10 ^ 60)) : Bad9 (Txt.join " " (((wordsOf9 p.1 es).take 1 ++ [iS i]) ++ (wordsOf9 p.1 es).drop 2)) := by
  have hp := p3 h hf
  have a : farB i = true := by
    rcases hi with rfl | rfl
    · exact far_ok.1
    · exact far_ok.2
  unfold farB at a
  simp only [Bool.and_eq_true, decide_eq_true_eq, Bool.not_eq_true'] at a
  obtain ⟨a1, a2, a3, a4, a5, a6⟩ := a
  refine sp_put h hf (by omega) ⟨asc_no a5, Nat.le_trans a2 (by decide)⟩ (fun e => absurd e (by decide)) fun j s e1 e2 => ?_
  have : j = 0 := by omega
  subst this
  rw [(form_facts p h).2.2.1] at e2
  cases e2
  exact ⟨a1, fun _ => fig_wok a6 (Nat.le_trans a2 (by decide))⟩
theorem w_at {i : Nat} {w : Str} (hw : (wordsOf9 p.1 es)[i]? = some w) : (i = 0 ∧ w = hyW p.1) ∨ ∃ j e s, i = j + 1 ∧ es[j]? = some e ∧ p.2[j]? = some s ∧ w = entryT e := by
  match i, hw with
  | 0, hw =>
    cases hw
    exact .inl ⟨rfl, rfl⟩
  | j + 1, hw =>
    have hw : (es.map entryT)[j]? = some w := hw
    rw [List.getElem?_map] at hw
    cases e : es[j]? with
    | none =>
      rw [e] at hw
      cases hw
    | some ee =>
      rw [e] at hw
      cases hw
      have hj := (List.getElem?_eq_some_iff.mp e).1
      rw [Paired.length hf] at hj
      exact .inr ⟨j, ee, p.2[j], rfl, e, List.getElem?_eq_getElem hj, rfl⟩
theorem tl_nl (w : Str) (x : Nat) (hx : x ≠ 32) (hw : 32 ∉ tl w) : 32 ∉ tl (w ++ SX.S [x]) := by
  rw [tl_add]
  intro hm
  rcases List.mem_append.mp hm with hm | hm
  · exact hw hm
  · exact hx (by simpa using hm : (32 : Nat) = x).symm
theorem len_nl (w : Str) (x : Nat) (hw : w.length ≤ 100) : (w ++ SX.S [x]).length ≤ 5100 := by
  have : tl (w ++ SX.S [x]) = tl w ++ [x] := tl_add _ _
  have e : (w ++ SX.S [x]).length = (tl (w ++ SX.S [x])).length := (Array.length_toList).symm
  have e2 : w.length = (tl w).length := (Array.length_toList).symm
  rw [e, this, List.length_append, List.length_singleton]
  omega
/-- a sign at a word's end -/
theorem sp_sign {i : Nat} {w : Str} (hw : (wordsOf9 p.1 es)[i]? = some w) (y : Str) (hy : y = "\n" ∨ y = "/") : Bad9 (Txt.join " " (((wordsOf9 p.1 es).take i ++ [w ++ y]) ++ (wordsOf9 p.1 es).drop (i + 1))) := by
  have hm := List.mem_of_getElem? hw
  have hi := (List.getElem?_eq_some_iff.mp hw).1
  rw [ws_len h hf] at hi
  have a := words_asc h hf w hm
  have hz : 32 ∉ tl (w ++ y) ∧ (w ++ y).length ≤ 5100 := by
    rcases hy with rfl | rfl
    · exact ⟨tl_nl h hf w 10 (by decide) (asc_no a.1), len_nl h hf w 10 a.2⟩
    · exact ⟨tl_nl h hf w 47 (by decide) (asc_no a.1), len_nl h hf w 47 a.2⟩
  refine sp_put h hf hi hz (fun e => ?_) fun j s e1 e2 => ?_
  · rcases w_at h hf hw with ⟨_, rfl⟩ | ⟨j, e, s, e1, _⟩
    · rcases hy with rfl | rfl
      · exact (form_facts p h).2.2.2.2.2.2.2.1
      · exact (form_facts p h).2.2.2.2.2.2.2.2.1
    · omega
  · rcases w_at h hf hw with ⟨e, _⟩ | ⟨j', e, s', e1', h1, h2, rfl⟩
    · omega
    · have : j' = j := by omega
      subst this
      rw [h2] at e2
      cases e2
      have f := fits_ok (pd_fit hf h1 h2)
      rcases hy with rfl | rfl
      · exact ⟨f.nl, fun e => fig_wok (f.wnl e) (Nat.le_trans hz.2 (by decide))⟩
      · exact ⟨f.sl, fun e => fig_wok (f.wsl e) (Nat.le_trans hz.2 (by decide))⟩
/-- a blank at a word's end -/
theorem sp_blank {i : Nat} {w : Str} (hw : (wordsOf9 p.1 es)[i]? = some w) : Bad9 (Txt.join " " (((wordsOf9 p.1 es).take i ++ [w ++ " "]) ++ (wordsOf9 p.1 es).drop (i + 1))) := by
  have hi := (List.getElem?_eq_some_iff.mp hw).1
  have hl := ws_len h hf
  have hp := p3 h hf
  rw [List.append_assoc, List.singleton_append, join_gap]
  have e1 : (wordsOf9 p.1 es).take i ++ w :: Str.ofString "" :: (wordsOf9 p.1 es).drop (i + 1) = (wordsOf9 p.1 es).take (i + 1) ++ Str.ofString "" :: (wordsOf9 p.1 es).drop (i + 1) := by
    rw [List.take_add_one, hw]
    simp
  rw [e1]
  have e2 : (wordsOf9 p.1 es).take (i + 1) ++ Str.ofString "" :: (wordsOf9 p.1 es).drop (i + 1) = hyW p.1 :: ((es.map entryT).take i ++ Str.ofString "" :: (es.map entryT).drop i) := rfl
  rw [e2]
  have hl2 : ((es.map entryT).take i ++ Str.ofString "" :: (es.map entryT).drop i).length ≠ p.2.length := by
    rw [List.length_append, List.length_cons, List.length_take, List.length_drop, List.length_map, Paired.length hf]
    omega
  refine bad_words (by simp) ?_ (fun v hv => ?_) (wsOk_len h hl2) (read_len h hl2)
  · rw [List.length_cons, List.length_append, List.length_cons, List.length_take, List.length_drop, List.length_map, Paired.length hf]
    omega
  · rw [← e2] at hv
    rcases List.mem_append.mp hv with hv | hv
    · exact ws_w h hf v (List.mem_of_mem_take hv)
    · rcases List.mem_cons.mp hv with hv | hv
      · rw [hv]
        decide +kernel
      · exact ws_w h hf v (List.mem_of_mem_drop hv)
theorem sp_front : Bad9 (Str.ofString " " ++ Txt.join " " (wordsOf9 p.1 es)) := by
  have hp := p3 h hf
  have hn : unhy "" = none := by decide +kernel
  rw [join_front _ (by unfold wordsOf9; simp)]
  refine bad_words (by simp) ?_ (fun v hv => ?_) (wsOk_no hn) (readW_none hn)
  · rw [List.length_cons, ws_len h hf]
    omega
  · rcases List.mem_cons.mp hv with hv | hv
    · rw [hv]
      decide +kernel
    · exact ws_w h hf v hv
theorem sp_back : Bad9 (Txt.join " " (wordsOf9 p.1 es) ++ Str.ofString " ") := by
  rw [join_back _ (by unfold wordsOf9; simp)]
  exact sp_more h hf "" (by decide +kernel)
theorem sp_nl : Bad9 (Txt.join " " (wordsOf9 p.1 es) ++ Str.ofString "\n") := by
  obtain ⟨m, w, e⟩ := snoc_of (l := wordsOf9 p.1 es) (by unfold wordsOf9; simp)
  have hw : (wordsOf9 p.1 es)[m.length]? = some w := by
    rw [e, List.getElem?_append_right (Nat.le_refl _), Nat.sub_self]
    rfl
  have := sp_sign h hf hw "\n" (.inl rfl)
  have e1 : (wordsOf9 p.1 es).take m.length = m := by rw [e, List.take_left]
  have e2 : (wordsOf9 p.1 es).drop (m.length + 1) = [] := by
    rw [e, List.drop_eq_nil_of_le]
    rw [List.length_append, List.length_singleton]
    exact Nat.le_refl _
  rw [e1, e2, List.append_nil, join_snoc, ← e] at this
  exact this
theorem sp_upper : Bad9 (Txt.upper (Txt.join " " (wordsOf9 p.1 es))) := by
  have hp := p3 h hf
  rw [upper_join fun w hw => asc_lt (words_asc h hf w hw).1]
  have hn := (form_facts p h).2.2.2.2.2.2.1
  refine bad_words (us := upW (hyW p.1) :: (es.map entryT).map upW) (by simp) ?_ (fun v hv => ?_) (wsOk_no hn) (readW_none hn)
  · rw [List.length_cons, List.length_map, List.length_map, Paired.length hf]
    omega
  · have hv : v ∈ (wordsOf9 p.1 es).map upW := hv
    obtain ⟨w, hw, rfl⟩ := List.mem_map.mp hv
    have a := words_asc h hf w hw
    constructor
    · intro hm
      obtain ⟨c, hc, e⟩ := List.mem_map.mp (show 32 ∈ (tl w).map up1 from hm)
      exact up_blank c (asc_lt a.1 c hc) (fun e => asc_no a.1 (e ▸ hc)) e
    · unfold upW
      rw [SX.S_len, List.length_map]
      have e2 : w.length = (tl w).length := (Array.length_toList).symm
      omega
theorem sp_gaps : Bad9 (Txt.replace (Txt.join " " (wordsOf9 p.1 es)) " " "  ") := by
  have hp := p3 h hf
  rw [replace_gaps (by unfold wordsOf9; simp) fun w hw => (ws_w h hf w hw).1]
  have hl := gaps_len (hyW p.1) (es.map entryT)
  rw [List.length_map, Paired.length hf] at hl
  have hm : ∀ w ∈ gaps (wordsOf9 p.1 es), 32 ∉ tl w ∧ w.length ≤ 5100 := fun w hw => by
    rcases gaps_mem _ hw with hw | hw
    · exact ws_w h hf w hw
    · rw [hw]
      decide +kernel
  unfold wordsOf9 at hm ⊢
  cases e : es.map entryT with
  | nil =>
    have : (es.map entryT).length = 0 := by rw [e]; rfl
    rw [List.length_map, Paired.length hf] at this
    omega
  | cons v r =>
    rw [e] at hl hm
    have hl2 : (Str.ofString "" :: gaps (v :: r)).length ≠ p.2.length := by
      have hl : (hyW p.1 :: Str.ofString "" :: gaps (v :: r)).length = _ := hl
      rw [List.length_cons] at hl
      omega
    refine bad_words (us := hyW p.1 :: "" :: gaps (v :: r)) (by simp) ?_ hm (wsOk_len h hl2) (read_len h hl2)
    have hl : (hyW p.1 :: Str.ofString "" :: gaps (v :: r)).length = _ := hl
    rw [hl]
    omega
end
end K9
set_option autoImplicit true
set_option Elab.async false
set_option linter.all false
set_option maxRecDepth 100000
set_option maxHeartbeats 8000000
namespace Tx
open PySem PySem.Spec PyProof.Rows L2 Cm
theorem scDigit : FnScope ["_law_state", "_law_base", "_law_cell", "_law_found", "_law_number"] ["_law_state", "_law_base"] (defScope sDigit) := ⟨rfl, rfl, rfl, by decide +kernel, rfl, by decide +kernel, by decide +kernel⟩
theorem scCell : FnScope ["_law_script", "_law_k"] ["_law_script", "_law_k"] (defScope sCell) := ⟨rfl, rfl, rfl, by decide +kernel, rfl, by decide +kernel, by decide +kernel⟩
/-- _law_cell_at -/
def spCell (K : PySem.W.Frag) : Sp := fun vs H Q _ => ∃ (a : Addr) (ns : List Int) (k : Nat), vs = [.ref a, .int k] ∧ SqL K H a (ns.map V.int) ∧ ∀ i : Int, (∀ j, ns[k]? = some j → i = j) → Q (.int i) H
section
variable {P : Program} {w : World} {K : PySem.W.Frag} {mg : Str → Option Value} {base : Heap}
theorem ok_cell {f : Addr} {fd : FuncData} {k : Nat} (F : Fun K "_law_cell_at" "_law_cell_at" sCell f fd) (B : Bi mg) : FnOk P w K mg base CX0 (k + 1) f fd ["_law_script", "_law_k"] (spCell K) := by
  refine F.ok scCell (fun vs H Q E h => ?_) (fun cdv A outer s H vs Q E hr h => ?_)
  · obtain ⟨a, ns, j, rfl, _⟩ := h
    rfl
  · obtain ⟨a, ns, j, rfl, hS, q⟩ := h
    refine ⟨_, pss_cons (ps_if (pt_cmpR op_lt (pv 1) (pe_callB call_len_seq (by rfl) B.len PySem.boot_len (pa_cons (pv 0) pa_nil)) (nomark _)) (pss_one (ps_ret (pe_ix ix_list (pv 0) (pv 1) (fun _ _ => rfl)))) pss_nil) (pss_one (ps_ret pe_int)), ?_⟩
    refine ⟨_, rfl, _, rfl, a, _, rfl, .inl hS, _, _, rfl, rfl, _, rfl, ite2 (fun c => ?_) (fun c => ?_)⟩
    · have c' : (j : Int) < ((ns.map V.int).length : Nat) := of_decide_eq_true c
      rw [List.length_map] at c'
      have hj : j < ns.length := by omega
      refine ⟨_, rfl, _, rfl, a, _, j, .int ns[j], rfl, rfl, hS, ?_, q _ fun i e => ?_⟩
      · refine atI_nat ?_
        rw [List.getElem?_map, List.getElem?_eq_getElem hj]
        rfl
      · rw [List.getElem?_eq_getElem hj] at e
        exact Option.some.inj e
    · have c' : ¬ (j : Int) < ((ns.map V.int).length : Nat) := fun z => c (decide_eq_true z)
      rw [List.length_map] at c'
      exact q 0 fun i e => by
        have := (List.getElem?_eq_some_iff.mp e).1
        omega
theorem ok_digit {f : Addr} {fd : FuncData} {k : Nat} (F : Fun K "_law_digit" "_law_digit" sDigit f fd) (B : Bi mg) : FnOk P w K mg base CX0 (k + 1) f fd ["_law_state", "_law_base"] spDigit := by
  refine F.ok scDigit (fun vs H Q E h => ?_) (fun cdv A outer s H vs Q E hr h => ?_)
  · obtain ⟨l, st, b, rfl, _⟩ := h
    rfl
  · obtain ⟨l, st, b, rfl, hl, hst, hb0, hb1, q⟩ := h
    refine ⟨_, C8.pss_cut (ps_if (pt_cmpR op_eq (pe_callB call_len_seq (by rfl) B.len PySem.boot_len (pa_cons (pv 0) pa_nil)) pe_int (nomark _))
        (pss_cons (ps_set (i := 2) scDigit.nd rfl (.inl rfl) (pe_ix ix_list (pv 0) pe_int (fun _ _ => rfl)))
        (pss_cons (ps_asg (pe_ix ix_list (pe_lst (pa_cons pe_int (pa_cons (pv 2) pa_nil))) (pe_callTy call_int1 (by rfl) B.int (by decide +kernel) (pa_cons (pe_cmpR op_ge (pv 2) (pe_op op_pow pe_int pe_int) (nomark _)) pa_nil)) (fun _ _ => rfl)) (pg_sub (pv 0) pe_int set_list))
          (pss_one (ps_expr (pe_bm PySem.F.plainAttrs_list PySem.F.slot_list_extend PySem.F.type_list_extend mt_extend (pv 0) (pa_cons (pe_lst (pa_cons (pe_op op_mod (pe_callTy call_int1 (by rfl) B.int (by decide +kernel) (pa_cons (pv 2) pa_nil)) pe_int) (pa_cons pe_int pa_nil))) pa_nil))))))
        pss_nil)
      (pss_cons (ps_if (pt_cmpR op_gt (pe_ix ix_list (pv 0) pe_int (fun _ _ => rfl)) pe_int (nomark _))
        (pss_cons (ps_set (i := 3) scDigit.nd rfl (.inl rfl) (pe_op op_mod (pe_callTy call_int1 (by rfl) B.int (by decide +kernel) (pa_cons (pe_ix ix_list (pv 0) pe_int (fun _ _ => rfl)) pa_nil)) (pv 1)))
          (pss_cons (ps_asg (pe_op op_fdiv (pe_ix ix_list (pv 0) pe_int (fun _ _ => rfl)) (pv 1)) (pg_sub (pv 0) pe_int set_list))
          (pss_one (ps_ret (pv 3))))) pss_nil)
      (pss_cons (ps_asg (pe_op op_add (pe_ix ix_list (pv 0) pe_int (fun _ _ => rfl)) pe_int) (pg_sub (pv 0) pe_int set_list))
      (pss_cons (ps_set (i := 4) scDigit.nd rfl (.inl rfl) (pe_op op_mod (pe_callTy call_int1 (by rfl) B.int (by decide +kernel) (pa_cons (pe_op op_mul (pe_op op_add (pe_op op_add (pe_ix ix_list (pv 0) pe_int (fun _ _ => rfl)) (pe_op op_mul pe_int (pe_ix ix_list (pv 0) pe_int (fun _ _ => rfl)))) pe_int) pe_int) pa_nil)) pe_int))
      (pss_cons (ps_set (i := 4) scDigit.nd rfl (.inl rfl) (pe_op op_mod (pe_callTy call_int1 (by rfl) B.int (by decide +kernel) (pa_cons (pe_op op_mul (pv 4) (pe_op op_add (pe_op op_fdiv (pv 4) pe_int) pe_int)) pa_nil)) pe_int))
      (pss_one (ps_ret (pe_op op_mod (pe_op op_mod (pe_callTy call_int1 (by rfl) B.int (by decide +kernel) (pa_cons (pe_op op_mul (pv 4) (pe_op op_add (pe_op op_fdiv (pv 4) pe_int) pe_int)) pa_nil)) pe_int) (pv 1)))))))), ?_⟩
    refine ⟨fun σ' H' => ∃ x a b' c, σ' = [some (.ref l), some (.int b), x, none, none] ∧ H' l = some (.lst [.int a, .int b', .int c]) ∧ But l H H', ?_, ?_⟩
    · refine ⟨_, rfl, l, st, rfl, .inl (SqL.of hl), rfl, _, rfl, ?_⟩
      rcases hst with ⟨c, rfl⟩ | ⟨a, b', c, rfl⟩
      · refine iteT ?_
        refine ⟨_, rfl, l, _, 0, .int c, rfl, rfl, SqL.of hl, rfl, ?_⟩
        refine ⟨_, rfl, (by show 2 ≤ sizeLine; decide), fun p hp => ?_⟩
        refine ⟨_, rfl, 10, 18, rfl, rfl, ⟨by decide, by decide, by decide⟩, c, _, rfl, rfl, .inr ⟨_, rfl, ?_⟩⟩
        have npl : l ≠ p := ne_of_none hl hp
        have hl1 : upd H p (.lst [.int 0, .int c]) l = some (.lst [.int c]) := by
          rw [upd_ne npl]
          exact hl
        obtain ⟨z, hz⟩ : ∃ z : Int, atI [V.int 0, V.int c] (if decide (10 ^ Int.toNat 18 ≤ c) = true then 1 else 0) = some (.int z) := by
          split
          · exact ⟨c, rfl⟩
          · exact ⟨0, rfl⟩
        refine ⟨p, _, _, .int z, rfl, rfl, SqL.of upd_same, hz, ?_⟩
        refine ⟨_, rfl, l, _, 0, 0, rfl, rfl, hl1, rfl, ?_⟩
        refine ⟨_, rfl, .inl ⟨rfl, _, SqL.of upd_same⟩, _, rfl, .inl ⟨c, rfl, ?_⟩⟩
        refine ⟨_, _, rfl, rfl, (by show (0 : Int) < 2147483647; decide), (by show 2 ≤ sizeLine; decide), fun p2 hp2 => ?_⟩
        have np2 : l ≠ p2 := ne_of_none upd_same hp2
        refine ⟨l, p2, _, _, rfl, rfl, (by rw [upd_ne np2]; exact upd_same), upd_same, (by show 1 + 2 ≤ sizeLine; decide), ?_⟩
        refine ⟨_, _, _, _, rfl, upd_same, fun b u n e => ?_⟩
        have e1 : upd H p (.lst [.int 0, .int c]) b = some u := by
          rw [upd_ne (ne_of_none e hp)]
          exact e
        have e2 : upd (upd H p (.lst [.int 0, .int c])) l (.lst [.int z]) b = some u := by
          rw [upd_ne n]
          exact e1
        rw [upd_ne n, upd_ne (ne_of_none e2 hp2)]
        exact e2
      · refine iteF ?_
        exact ⟨_, a, b', c, rfl, hl, But.refl l H⟩
    · rintro σ' H1 ⟨x, a, b', c, rfl, h1, bt⟩
      refine ⟨_, rfl, l, _, 0, .int a, rfl, rfl, SqL.of h1, rfl, a, 0, rfl, rfl, _, rfl, ite2 (fun ha => ?_) (fun ha => ?_)⟩
      · refine ⟨_, rfl, l, _, 0, .int a, rfl, rfl, SqL.of h1, rfl, .inl ⟨a, rfl, ?_⟩⟩
        refine ⟨_, rfl, a, b, rfl, rfl, hb0, ?_⟩
        refine ⟨_, rfl, l, _, 0, .int a, rfl, rfl, SqL.of h1, rfl, ?_⟩
        refine ⟨_, rfl, a, b, rfl, rfl, ⟨hb0, hb1⟩, ?_⟩
        refine ⟨_, rfl, l, _, 0, 0, rfl, rfl, h1, rfl, ?_⟩
        refine ⟨_, rfl, ?_⟩
        obtain ⟨d, hd, ed⟩ := mod_nat (x := a) hb0
        dsimp only
        rw [ed]
        exact q d _ _ hd (.inr ⟨_, _, _, rfl⟩) upd_same (bt.trans But.upd)
      · refine ⟨_, rfl, l, _, 2, .int c, rfl, rfl, SqL.of h1, rfl, c, 1, rfl, rfl, ?_⟩
        refine ⟨_, rfl, l, _, 2, 2, rfl, rfl, h1, rfl, ?_⟩
        refine ⟨_, rfl, l, _, 1, .int b', rfl, rfl, SqL.of upd_same, rfl, ?_⟩
        refine ⟨_, rfl, l, _, 2, .int (c + 1), rfl, rfl, SqL.of upd_same, rfl, ?_⟩
        refine ⟨7919, c + 1, rfl, rfl, .inl ⟨by decide, by decide⟩, b', _, rfl, rfl, _, _, rfl, rfl, _, _, rfl, rfl, .inr ⟨by decide, by decide⟩, .inl ⟨_, rfl, ?_⟩⟩
        refine ⟨_, _, rfl, rfl, (by show (0 : Int) < 2147483647; decide), ?_⟩
        obtain ⟨n1, hn1, en1⟩ := mod_nat (x := (b' + 7919 * (c + 1) + 1) * 48271) (b := 2147483647) (by decide)
        dsimp only
        rw [en1]
        refine ⟨_, rfl, _, rfl, n1, 1009, rfl, rfl, ⟨by decide, by decide⟩, _, _, rfl, rfl, n1, _, rfl, rfl, .inl ⟨by omega, by omega⟩, .inl ⟨_, rfl, ?_⟩⟩
        refine ⟨_, _, rfl, rfl, (by show (0 : Int) < 2147483647; decide), ?_⟩
        obtain ⟨n2, hn2, en2⟩ := mod_nat (x := (n1 : Int) * ((n1 : Int) / 1009 + 69621)) (b := 2147483647) (by decide)
        dsimp only
        rw [en2]
        refine ⟨_, rfl, _, rfl, n2, 2003, rfl, rfl, ⟨by decide, by decide⟩, _, _, rfl, rfl, n2, _, rfl, rfl, .inl ⟨by omega, by omega⟩, .inl ⟨_, rfl, ?_⟩⟩
        refine ⟨_, _, rfl, rfl, (by show (0 : Int) < 2147483399; decide), _, rfl, _, b, rfl, rfl, hb0, ?_⟩
        obtain ⟨d, hd, ed⟩ := mod_nat (x := (n2 : Int) * ((n2 : Int) / 2003 + 40692) % 2147483399) hb0
        dsimp only
        rw [ed]
        exact q d _ _ hd (.inr ⟨_, _, _, rfl⟩) upd_same (bt.trans But.upd)
end
end Tx
set_option Elab.async false
set_option linter.all false
set_option maxRecDepth 100000
set_option maxHeartbeats 8000000
set_option autoImplicit false
/-! the law's small defs: _law_text, _law_one, _law_road -/
namespace K9
open PySem PySem.Spec PyProof.Rows L2 Cm Tx Tk
abbrev nLt : List Str := ["_law_deed_here", "_law_words", "_law_entry"]
theorem scLt : FnScope nLt ["_law_deed_here"] (defScope sLText) := ⟨rfl, rfl, rfl, by decide +kernel, rfl, by decide +kernel, by decide +kernel⟩
/-- a deed's tuple -/
def DdAt (H : Hp) (v : V) (word : Str) (es : List EV) : Prop := ∃ a, v = .ref a ∧ H a = some (.tup ((.str word :: es).map evV))
theorem DdAt.same {H H' : Hp} {v : V} {word : Str} {es : List EV} (h : DdAt H v word es) (s : Same H H') : DdAt H' v word es := by
  obtain ⟨a, e, h⟩ := h
  exact ⟨a, e, s _ _ h⟩
def EsOk (es : List EV) : Prop := es.length ≤ 3 ∧ ∀ e ∈ es, EOk e ∧ (entryT e).length ≤ 1000
def spLt : Sp := fun vs H Q _ => ∃ v p es, vs = [v] ∧ DdAt H v p.1 es ∧ p ∈ formsL ∧ EsOk es ∧ ∀ H', Same H H' → Q (.str (Txt.join " " (wordsOf9 p.1 es))) H'
section
variable {P : Program} {w : World} {K : PySem.W.Frag} {mg : Str → Option Value} {base : Heap}
theorem ok_lt {f : Addr} {fd : FuncData} {k : Nat} (F : Fun K "_law_text" "_law_text" sLText f fd) (B : Bi mg) : FnOk P w K mg base CX0 (k + 1) f fd ["_law_deed_here"] spLt := by
  refine F.ok scLt (fun vs H Q E h => ?_) (fun cdv A outer s H vs Q E hr h => ?_)
  · obtain ⟨v, p, es, rfl, _⟩ := h
    rfl
  · obtain ⟨v, p, es, rfl, ⟨a, rfl, ha⟩, hp, ⟨hes, heo⟩, q⟩ := h
    refine ⟨_, pss_cons (ps_set (i := 1) scLt.nd rfl (.inl rfl) (pe_lst (pa_cons (pe_replG (peg_ix ix_tup (pv 0) peg_int (fun _ _ => rfl))) pa_nil)))
      (pss_cons (ps_for PassesOwn.never rfl (pi_tup (pe_slice sl_tup (pv 0) (po_some pe_int) po_none)) (pg_name (i := 2) scLt.nd rfl (Or.inl rfl))
        (pss_one (ps_if (pt_val (pe_callB call_isi (by rfl) B.isin (by decide +kernel) (pa_cons (pv 2) (pa_cons (pe_bltn (v := .ty "bool") (by rfl) B.bool (by decide +kernel) rfl) pa_nil))))
          (pss_one (ps_expr (pe_bm PySem.F.plainAttrs_list PySem.F.slot_list_append PySem.F.type_list_append mt_append (pv 1) (pa_cons (pe_ix ix_list (pe_lst (pa_cons pe_str (pa_cons pe_str pa_nil))) (pe_callTy call_int1 (by rfl) B.int (by decide +kernel) (pa_cons (pv 2) pa_nil)) (fun _ _ => rfl)) pa_nil))))
          (pss_one (ps_expr (pe_bm PySem.F.plainAttrs_list PySem.F.slot_list_append PySem.F.type_list_append mt_append (pv 1) (pa_cons (pe_callTy call_str1 (by rfl) B.str (by decide +kernel) (pa_cons (pv 2) pa_nil)) pa_nil)))))))
      (pss_one (ps_ret (pe_join pe_str (pv 1))))), ?_⟩
    have a0 : atI ((EV.str p.1 :: es).map evV) 0 = some (.str p.1) := atI_nat (j := 0) rfl
    refine ⟨_, rfl, a, _, 0, .str p.1, rfl, rfl, SqT.of ha, a0, p.1, rfl, (hy_ok p hp).1, (by show 1 ≤ sizeLine; decide), fun l hl => ?_⟩
    have s1 := same_new (o := HO.lst [V.str (Txt.replace p.1 " " "-")]) hl
    have ha1 := s1 _ _ ha
    refine ⟨_, rfl, 1, rfl, a, _, rfl, SqT.of ha1, fun z => ?_, fun p1 hp1 => ?_⟩
    · have z1 := z.1
      have e : HT.sIx ((EV.str p.1 :: es).map evV).length 0 (some 1) = 1 := sIx1 _ _
      rw [e] at z1
      cases z1
    have ec : cutV ((EV.str p.1 :: es).map evV) (some 1) none = es.map evV := cut_tail
    rw [ec]
    have s2 := same_new (o := HO.tup (es.map evV)) hp1
    have gl : (upd (upd H l (.lst [.str (Txt.replace p.1 " " "-")])) p1 (.tup (es.map evV))) l = some (.lst [.str (Txt.replace p.1 " " "-")]) := s2 _ _ upd_same
    have g1 : (upd (upd H l (.lst [.str (Txt.replace p.1 " " "-")])) p1 (.tup (es.map evV))) p1 = some (.tup (es.map evV)) := upd_same
    have nl1 : p1 ≠ l := fun e => by
      rw [e] at hp1
      rw [upd_same] at hp1
      cases hp1
    have sA := s1.trans s2
    generalize upd (upd H l (.lst [.str (Txt.replace p.1 " " "-")])) p1 (.tup (es.map evV)) = H1 at sA gl g1 ⊢
    refine ⟨p1, rfl, ⟨_, SqT.of g1⟩, for_tup (K := K) (a := p1) (xs := es.map evV) (fun i σ H' => (∃ x, σ = [some (.ref a), some (.ref l), x]) ∧ H' l = some (.lst ((hyW p.1 :: (es.map entryT).take i).map V.str)) ∧ H' p1 = some (.tup (es.map evV)) ∧ Same H H') ⟨⟨_, rfl⟩, gl, g1, sA⟩ (fun i σ H' _ g => SqT.of g.2.2.1) ?_ ?_⟩
    · rintro i x σ H2 hx ⟨⟨x0, rfl⟩, h1, h2, h3⟩
      rw [List.getElem?_map] at hx
      cases ee : es[i]? with
      | none =>
        rw [ee] at hx
        cases hx
      | some e =>
        rw [ee] at hx
        cases hx
        have eo := heo e (List.mem_of_getElem? ee)
        have hlen : ((hyW p.1 :: (es.map entryT).take i).map V.str).length < sizeLine := small1000 (by
          rw [List.length_map, List.length_cons, List.length_take, List.length_map]
          omega)
        have fin : ∀ H3, Same H2 H3 → (∃ x, [some (V.ref a), some (.ref l), some (evV e)] = [some (.ref a), some (.ref l), x]) ∧ upd H3 l (.lst ((hyW p.1 :: (es.map entryT).take i).map V.str ++ [.str (entryT e)])) l = some (.lst ((hyW p.1 :: (es.map entryT).take (i + 1)).map V.str)) ∧ upd H3 l (.lst ((hyW p.1 :: (es.map entryT).take i).map V.str ++ [.str (entryT e)])) p1 = some (.tup (es.map evV)) ∧ Same H (upd H3 l (.lst ((hyW p.1 :: (es.map entryT).take i).map V.str ++ [.str (entryT e)]))) := fun H3 s3 => by
          refine ⟨⟨_, rfl⟩, ?_, ?_, same_mut hl (h3.trans s3)⟩
          · rw [upd_same, take_snoc (x := entryT e) (by rw [List.getElem?_map, ee]; rfl)]
            simp
          · rw [upd_ne nl1]
            exact s3 _ _ h2
        cases e with
        | oth => exact eo.1.elim
        | bl b =>
          refine ⟨_, rfl, _, .ty "bool", _, _, true, rfl, .ty _, .base (.bl b), kit_ty (by decide +kernel), _, rfl, iteT ?_⟩
          refine ⟨_, rfl, .inl ⟨rfl, _, SqL.of h1⟩, (by show 2 ≤ sizeLine; decide), fun pz hpz => ?_⟩
          have s3 := same_new (o := HO.lst [V.str "no", .str "yes"]) hpz
          refine ⟨_, rfl, .inr ⟨b, rfl, pz, _, _, .str (entryT (.bl b)), rfl, rfl, SqL.of upd_same, by cases b <;> rfl, ?_⟩⟩
          exact ⟨_, _, _, rfl, rfl, s3 _ _ h1, hlen, fin _ s3⟩
        | str z =>
          refine ⟨_, rfl, _, .ty "bool", _, _, false, rfl, .ty _, .base (.str z), kit_ty (by decide +kernel), _, rfl, iteF ?_⟩
          exact ⟨_, rfl, .inl ⟨rfl, _, SqL.of h1⟩, _, rfl, .inr ⟨z, rfl, _, _, _, rfl, rfl, h1, hlen, fin _ (Same.refl _)⟩⟩
        | int j =>
          refine ⟨_, rfl, _, .ty "bool", _, _, false, rfl, .ty _, .base (.int j), kit_ty (by decide +kernel), _, rfl, iteF ?_⟩
          exact ⟨_, rfl, .inl ⟨rfl, _, SqL.of h1⟩, _, rfl, .inl ⟨j, rfl, eo.1, _, _, _, rfl, rfl, h1, hlen, fin _ (Same.refl _)⟩⟩
    · rintro σ H2 ⟨⟨x0, rfl⟩, h1, h2, h3⟩
      rw [List.take_of_length_le (by rw [List.length_map, List.length_map]; exact Nat.le_refl _)] at h1
      refine ⟨⟨_, rfl⟩, _, rfl, " ", l, wordsOf9 p.1 es, rfl, rfl, .inl (SqL.of h1), join_room (hy_ok p hp).2.1 (fun e he => (heo e he).2) hes, q _ h3⟩
end
end K9
set_option Elab.async false
set_option linter.all false
set_option maxRecDepth 100000
set_option maxHeartbeats 8000000
set_option autoImplicit false
/-! _law_one, _law_road -/
namespace K9
open PySem PySem.Spec PyProof.Rows L2 Cm Tx Tk
theorem scOne : FnScope ["_law_state", "_law_some"] ["_law_state", "_law_some"] (defScope sOne) := ⟨rfl, rfl, rfl, by decide +kernel, rfl, by decide +kernel, by decide +kernel⟩
abbrev nRo : List Str := ["_law_state", "_law_words", "_law_k"]
theorem scRo : FnScope nRo ["_law_state"] (defScope sRoad) := ⟨rfl, rfl, rfl, by decide +kernel, rfl, by decide +kernel, by decide +kernel⟩
def StAt (H : Hp) (l : Addr) : Prop := ∃ st, H l = some (.lst st) ∧ StOk st
theorem Bs.here {H H' : Hp} {l : Addr} (b : Bs H l H') : StAt H' l := b.st
def spOne (K : PySem.W.Frag) : Sp := fun vs H Q _ => ∃ l a xs, vs = [.ref l, .ref a] ∧ StAt H l ∧ H a = some (.lst xs) ∧ a ≠ l ∧ 0 < xs.length ∧ xs.length ≤ 1000 ∧ ∀ (d : Nat) x H', xs[d]? = some x → Bs H l H' → Q x H'
def spRoad : Sp := fun vs H Q _ => ∃ l, vs = [.ref l] ∧ StAt H l ∧ ∀ r H', Road r → Bs H l H' → Q (.str r) H'
section
variable {P : Program} {w : World} {K : PySem.W.Frag} {mg : Str → Option Value} {base : Heap}
theorem ok_one {f : Addr} {fd : FuncData} {k : Nat} (F : Fun K "_law_one" "_law_one" sOne f fd) (B : Bi mg) (Dg : Cl P w K mg base CX0 1 "_law_digit" ["_law_state", "_law_base"] spDigit) : FnOk P w K mg base CX0 (k + 2) f fd ["_law_state", "_law_some"] (spOne K) := by
  refine F.ok scOne (fun vs H Q E h => ?_) (fun cdv A outer s H vs Q E hr h => ?_)
  · obtain ⟨l, a, xs, rfl, _⟩ := h
    rfl
  · obtain ⟨l, a, xs, rfl, ⟨st, hl, hst⟩, ha, na, h0, h1, q⟩ := h
    refine ⟨_, pss_one (ps_ret (pe_ix ix_list (pv 1) (pe_cl Dg hr (by omega) (by rfl) pass0 (pa_cons (pv 0) (pa_cons (pe_callB call_len_seq (by rfl) B.len PySem.boot_len (pa_cons (pv 1) pa_nil)) pa_nil))) (fun _ _ => rfl))), ?_⟩
    refine ⟨_, rfl, _, rfl, _, rfl, a, xs, rfl, .inl (SqL.of ha), l, st, _, rfl, hl, hst, by omega, by omega, fun d st' H1 hd hst' hl' bt => ?_⟩
    obtain ⟨x, hx⟩ : ∃ x, xs[d]? = some x := ⟨_, List.getElem?_eq_getElem (by omega)⟩
    exact ⟨a, xs, d, x, rfl, rfl, SqL.of (bt _ _ na ha), atI_nat hx, q d x H1 hx ⟨⟨st', hl', hst'⟩, bt⟩⟩
theorem ok_road {f : Addr} {fd : FuncData} {k : Nat} (F : Fun K "_law_road" "_law_road" sRoad f fd) (B : Bi mg) (Dg : Cl P w K mg base CX0 1 "_law_digit" ["_law_state", "_law_base"] spDigit) (On : Cl P w K mg base CX0 2 "_law_one" ["_law_state", "_law_some"] (spOne K)) : FnOk P w K mg base CX0 (k + 3) f fd ["_law_state"] spRoad := by
  refine F.ok scRo (fun vs H Q E h => ?_) (fun cdv A outer s H vs Q E hr h => ?_)
  · obtain ⟨l, rfl, _⟩ := h
    rfl
  · obtain ⟨l, rfl, ⟨st, hl, hst⟩, q⟩ := h
    refine ⟨_, pss_cons (ps_set (i := 1) scRo.nd rfl (.inr rfl) (pe_lst (pa_cons pe_str (pa_cons pe_str (pa_cons pe_str (pa_cons pe_str (pa_cons pe_str (pa_cons pe_str (pa_cons pe_str pa_nil)))))))))
      (pss_one (ps_ret (pe_op op_add_str pe_str (pe_join pe_str (pe_lc (own := [("_law_k", 2)]) (g := gName 2) (tt := tYes) (by rfl) scRo.nd (pi_range1 (by rfl) B.range (pa_cons (pe_cl Dg hr (by omega) (by rfl) pass0 (pa_cons (pv 0) (pa_cons pe_int pa_nil))) pa_nil)) (blkOk_by (own := [("_law_k", 2)]) (N := nRo) (sc := defScope sRoad) (by decide +kernel)) (fun _ _ _ _ _ => pg_name (i := 2) scRo.nd rfl (Or.inl rfl)) (fun _ _ _ _ _ => pts_nil)
          (fun _ _ _ _ _ => pe_cl On hr (by omega) (by rfl) pass0 (pa_cons (pv 0) (pa_cons (pv 1) pa_nil)))))))), ?_⟩
    refine ⟨(by show 7 ≤ sizeLine; decide), fun p hp => ?_⟩
    have np : p ≠ l := (ne_of_none hl hp).symm
    have hl1 := same_new (o := HO.lst (roadW.map V.str)) hp _ _ hl
    refine ⟨⟨_, rfl⟩, _, rfl, l, st, _, rfl, hl1, hst, by decide, by decide, fun d st1 H1 hd hst1 hl2 bt1 => ?_⟩
    have b1 : Bs H l H1 := ⟨⟨st1, hl2, hst1⟩, fun b o nb e => bt1 b o nb (same_new hp _ _ e)⟩
    have hp1 : H1 p = some (.lst (roadW.map V.str)) := bt1 _ _ np upd_same
    refine ⟨d, rfl, by omega, by omega, fun D hD => lc_range (lo := 0) (n := (d : Int).toNat) (fun i H2 => Bs H l H2 ∧ H2 p = some (.lst (roadW.map V.str)) ∧ ∃ ws : List Str, H2 D = some (.lst (ws.map V.str)) ∧ ws.length = i ∧ ∀ w ∈ ws, w ∈ roadW) ⟨b1.same (same_new hD), same_new hD _ _ hp1, [], upd_same, rfl, fun _ h => by cases h⟩ ?_ ?_⟩
    · rintro i H2 hi ⟨b2, hp2, ws, hw, hlen, hin⟩
      have nDl : D ≠ l := (ne_of_none hl2 hD).symm
      have nDp : p ≠ D := ne_of_none hp1 hD
      refine ⟨rfl, _, rfl, _, rfl, l, p, _, rfl, b2.st, hp2, np, by decide, by decide, fun j x H3 hx b3 => ?_⟩
      rw [List.getElem?_map] at hx
      cases e : roadW[j]? with
      | none =>
        rw [e] at hx
        cases hx
      | some z =>
        rw [e] at hx
        cases hx
        obtain ⟨st3, hl3, hst3⟩ := b3.st
        refine ⟨_, b3.but _ _ nDl hw, small1000 (by rw [List.length_map]; omega), ⟨⟨st3, by rw [upd_ne nDl.symm]; exact hl3, hst3⟩, fun b o nb hb => ?_⟩, ?_, ws ++ [z], ?_, by rw [List.length_append, hlen]; rfl, ?_⟩
        · have z0 : H1 b = some o := b1.but b o nb hb
          rw [upd_ne (ne_of_none z0 hD)]
          exact b3.but b o nb (b2.but b o nb hb)
        · rw [upd_ne nDp]
          exact b3.but _ _ np hp2
        · rw [upd_same, List.map_append]
          rfl
        · intro y hy
          rcases List.mem_append.mp hy with h | h
          · exact hin y h
          · rw [List.mem_singleton.mp h]
            exact List.mem_of_getElem? e
    · rintro H2 ⟨b2, _, ws, hw, hlen, hin⟩
      have hlw : ws.length ≤ 4 := by
        have : (d : Int).toNat = d := rfl
        omega
      have ro : Road (Str.ofString "/" ++ Txt.join "/" ws) := ⟨ws, hlw, hin, rfl⟩
      have hsum := sum_le (·.length) 8 ws fun z hz => (roadW_ok z (hin z hz)).2.2.2.2.2
      have l1 : (Str.ofString "/").length = 1 := rfl
      refine ⟨"/", D, ws, rfl, rfl, .inl (SqL.of hw), by rw [l1]; omega, _, _, rfl, rfl, ?_, q _ _ ro b2⟩
      have := (road_asc ro).2
      have e1 : (Str.ofString "/" ++ Txt.join "/" ws).length = (Str.ofString "/").length + (Txt.join "/" ws).length := by
        have t : ∀ z : Str, z.length = (tl z).length := fun z => (Array.length_toList).symm
        rw [t, t, t, tl_add, List.length_append]
      rw [← e1]
      exact Nat.le_trans this (by decide)
end
end K9
set_option Elab.async false
set_option linter.all false
set_option maxRecDepth 100000
set_option maxHeartbeats 8000000
set_option autoImplicit false
/-! _law_deed -/
namespace K9
open PySem PySem.Spec PyProof.Rows L2 Cm Tx Tk
abbrev nDe : List Str := ["_law_state", "_law_area", "_law_way", "_law_kind"]
theorem scDe : FnScope nDe ["_law_state"] (defScope sLDeed) := ⟨rfl, rfl, rfl, by decide +kernel, rfl, by decide +kernel, by decide +kernel⟩
def spLd : Sp := fun vs H Q _ => ∃ l, vs = [.ref l] ∧ StAt H l ∧ ∀ v p es H', p ∈ formsL → Paired Fits es p.2 → DdAt H' v p.1 es → Bs H l H' → Q v H'
def areas7 (d : Nat) : List Int := [0, 1, 7, -3, 10 ^ 20, 1 - 10 ^ 20, d]
theorem areas7_in {d j : Nat} (hd : d < 100) {i : Int} (h : (areas7 d)[j]? = some i) : i ∈ areas := by
  have hd2 : (d : Int) ∈ areas := List.mem_append_right _ (List.mem_map.mpr ⟨d, List.mem_range.mpr hd, rfl⟩)
  match j, h with
  | 0, h => cases h; decide +kernel
  | 1, h => cases h; decide +kernel
  | 2, h => cases h; decide +kernel
  | 3, h => cases h; decide +kernel
  | 4, h => cases h; decide +kernel
  | 5, h => cases h; decide +kernel
  | 6, h => cases h; exact hd2
  | j + 7, h => cases h
theorem strAt {ns : List Str} {d : Nat} {x : V} (h : (ns.map V.str)[d]? = some x) : ∃ z, ns[d]? = some z ∧ z ∈ ns ∧ x = .str z := by
  rw [List.getElem?_map] at h
  cases e : ns[d]? with
  | none =>
    rw [e] at h
    cases h
  | some z =>
    rw [e] at h
    cases h
    exact ⟨z, rfl, List.mem_of_getElem? e, rfl⟩
def two3 : List Str := ["bind", "bind all", "move"]
def mk2 : List Str := ["make", "make all"]
def un2 : List Str := ["unmount", "unmount all"]
theorem two_ok : ∀ z ∈ two3, (z, (["space", "path", "path"] : List Str)) ∈ formsL := by decide +kernel
theorem mk_ok : ∀ z ∈ mk2, (z, (["space", "path", "kind"] : List Str)) ∈ formsL := by decide +kernel
theorem un_ok : ∀ z ∈ un2, (z, (["space", "path"] : List Str)) ∈ formsL := by decide +kernel
section
variable {P : Program} {w : World} {K : PySem.W.Frag} {mg : Str → Option Value} {base : Heap}
theorem ok_ld {f : Addr} {fd : FuncData} {k : Nat} (F : Fun K "_law_deed" "_law_deed" sLDeed f fd) (B : Bi mg) (Dg : Cl P w K mg base CX0 1 "_law_digit" ["_law_state", "_law_base"] spDigit) (On : Cl P w K mg base CX0 2 "_law_one" ["_law_state", "_law_some"] (spOne K)) (Ro : Cl P w K mg base CX0 3 "_law_road" ["_law_state"] spRoad) : FnOk P w K mg base CX0 (k + 4) f fd ["_law_state"] spLd := by
  refine F.ok scDe (fun vs H Q E h => ?_) (fun cdv A outer s H vs Q E hr h => ?_)
  · obtain ⟨l, rfl, _⟩ := h
    rfl
  · obtain ⟨l, rfl, ⟨st, hl, hst⟩, q⟩ := h
    have dg : ∀ {e : Expr}, True := fun {_} => trivial
    refine ⟨_, pss_cons (ps_set (i := 1) scDe.nd rfl (.inl rfl) (pe_ix ix_list (pe_lst (pa_cons pe_int (pa_cons pe_int (pa_cons pe_int (pa_cons (pe_un un_neg pe_int) (pa_cons (pe_op op_pow pe_int pe_int) (pa_cons (pe_op op_sub pe_int (pe_op op_pow pe_int pe_int)) (pa_cons (pe_cl Dg hr (by omega) (by rfl) pass0 (pa_cons (pv 0) (pa_cons pe_int pa_nil))) pa_nil)))))))) (pe_cl Dg hr (by omega) (by rfl) pass0 (pa_cons (pv 0) (pa_cons pe_int pa_nil))) (fun _ _ => rfl)))
      (pss_cons (ps_set (i := 2) scDe.nd rfl (.inl rfl) (pe_cl Dg hr (by omega) (by rfl) pass0 (pa_cons (pv 0) (pa_cons pe_int pa_nil))))
      (pss_cons (ps_if (pt_cmpR op_eq (pv 2) pe_int (nomark _)) (pss_one (ps_ret (pe_tup (pa_cons pe_str (pa_cons (pv 1) (pa_cons (pe_cl On hr (by omega) (by rfl) pass0 (pa_cons (pv 0) (pa_cons (pe_lst (pa_cons pe_str (pa_cons pe_str (pa_cons pe_str (pa_cons pe_str (pa_cons pe_str pa_nil)))))) pa_nil))) (pa_cons (pe_cl Ro hr (by omega) (by rfl) pass0 (pa_cons (pv 0) pa_nil)) pa_nil))))))) pss_nil)
      (pss_cons (ps_if (pt_cmpR op_lt (pv 2) pe_int (nomark _)) (pss_one (ps_ret (pe_tup (pa_cons (pe_ix ix_list (pe_lst (pa_cons pe_str (pa_cons pe_str (pa_cons pe_str pa_nil)))) (pe_op op_sub (pv 2) pe_int) (fun _ _ => rfl)) (pa_cons (pv 1) (pa_cons (pe_cl Ro hr (by omega) (by rfl) pass0 (pa_cons (pv 0) pa_nil)) (pa_cons (pe_cl Ro hr (by omega) (by rfl) pass0 (pa_cons (pv 0) pa_nil)) pa_nil))))))) pss_nil)
      (pss_cons (ps_if (pt_cmpR op_lt (pv 2) pe_int (nomark _)) (pss_cons (ps_set (i := 3) scDe.nd rfl (.inl rfl) (pe_cl On hr (by omega) (by rfl) pass0 (pa_cons (pv 0) (pa_cons (pe_lst (pa_cons pe_str (pa_cons pe_str (pa_cons pe_str (pa_cons pe_str pa_nil))))) pa_nil)))) (pss_one (ps_ret (pe_tup (pa_cons (pe_ix ix_list (pe_lst (pa_cons pe_str (pa_cons pe_str pa_nil))) (pe_op op_sub (pv 2) pe_int) (fun _ _ => rfl)) (pa_cons (pv 1) (pa_cons (pe_cl Ro hr (by omega) (by rfl) pass0 (pa_cons (pv 0) pa_nil)) (pa_cons (pv 3) pa_nil)))))))) pss_nil)
      (pss_cons (ps_if (pt_cmpR op_lt (pv 2) pe_int (nomark _)) (pss_one (ps_ret (pe_tup (pa_cons (pe_ix ix_list (pe_lst (pa_cons pe_str (pa_cons pe_str pa_nil))) (pe_op op_sub (pv 2) pe_int) (fun _ _ => rfl)) (pa_cons (pv 1) (pa_cons (pe_cl Ro hr (by omega) (by rfl) pass0 (pa_cons (pv 0) pa_nil)) pa_nil)))))) pss_nil)
      (pss_one (ps_ret (pe_tup (pa_cons pe_str (pa_cons (pv 1) (pa_cons (pe_cmpR op_eq (pe_cl Dg hr (by omega) (by rfl) pass0 (pa_cons (pv 0) (pa_cons pe_int pa_nil))) pe_int (nomark _)) pa_nil))))))))))), ?_⟩
    have powOk : (0 : Int) ≤ 20 ∧ True := ⟨by decide, trivial⟩
    refine ⟨_, rfl, 10, 20, rfl, rfl, ⟨by decide, by decide, by decide⟩, 10, 20, rfl, rfl, ⟨by decide, by decide, by decide⟩, _, _, rfl, rfl, ?_⟩
    refine ⟨_, rfl, l, st, _, rfl, hl, hst, by decide, by decide, fun d0 st0 H0 hd0 hst0 hl0 bt0 => ?_⟩
    have b0 : Bs H l H0 := ⟨⟨st0, hl0, hst0⟩, bt0⟩
    refine ⟨(by show 7 ≤ sizeLine; decide), fun p0 hp0 => ?_⟩
    have s0 := same_new (o := HO.lst ((areas7 d0).map V.int)) hp0
    have np0 : p0 ≠ l := (ne_of_none hl0 hp0).symm
    refine ⟨_, rfl, l, st0, _, rfl, s0 _ _ hl0, hst0, by decide, by decide, fun d1 st1 H1 hd1 hst1 hl1 bt1 => ?_⟩
    have b1 : Bs H l H1 := (b0.same s0).trans ⟨⟨st1, hl1, hst1⟩, bt1⟩
    obtain ⟨i, hi⟩ : ∃ i, (areas7 d0)[d1]? = some i := ⟨_, List.getElem?_eq_getElem (by show d1 < 7; omega)⟩
    have hin := areas7_in (by omega) hi
    refine ⟨p0, _, d1, .int i, rfl, rfl, SqL.of (bt1 _ _ np0 upd_same), atI_nat (show ((areas7 d0).map V.int)[d1]? = some (.int i) by rw [List.getElem?_map, hi]; rfl), ?_⟩
    refine ⟨_, rfl, l, st1, _, rfl, hl1, hst1, by decide, by decide, fun wy st2 H2 hd2 hst2 hl2 bt2 => ?_⟩
    have b2 : Bs H l H2 := b1.trans ⟨⟨st2, hl2, hst2⟩, bt2⟩
    refine ⟨_, rfl, rfl, _, rfl, ?_⟩
    have fin : ∀ {H1 : Hp} (xs : List V) (p : Str × List Str) (es : List EV), xs.length ≤ 10 → p ∈ formsL → Paired Fits es p.2 → xs = (EV.str p.1 :: es).map evV → Bs H l H1 → (xs.length ≤ sizeLine ∧ ∀ p, H1 p = none → Q (.ref p) (upd H1 p (.tup xs))) := fun {H1} xs p es hl hp hf e b => by
      subst e
      refine ⟨Nat.le_trans hl (by decide), fun z hz => q _ p es _ hp hf ⟨z, rfl, upd_same⟩ (b.same (same_new hz))⟩
    by_cases w0 : wy = 0
    · subst w0
      refine iteT ⟨_, rfl, _, rfl, (by show 5 ≤ sizeLine; decide), fun pn hpn => ?_⟩
      have b3 := b2.same (same_new (o := HO.lst (namesL.map V.str)) hpn)
      have nn : pn ≠ l := (ne_of_none hl2 hpn).symm
      refine ⟨l, pn, namesL.map V.str, rfl, b3.st, upd_same, nn, by decide, by decide, fun d x H3 hx b4 => ?_⟩
      obtain ⟨z, _, hz, rfl⟩ := strAt hx
      refine ⟨_, rfl, l, rfl, (b3.trans b4).st, fun r H4 hr b5 => fin _ ("mount", ["space", "tree", "path"]) [.int i, .str z, .str r] (by show 4 ≤ 10; decide) (by decide +kernel) (.cons (.space i hin) (.cons (.tree z hz) (.cons (.path r hr) .nil))) rfl ((b3.trans b4).trans b5)⟩
    rw [decide_eq_false (show ¬ V.int (wy : Int) = V.int 0 from fun e => w0 (by have := V.int.inj e; omega))]
    refine iteF ⟨_, rfl, _, _, rfl, rfl, _, rfl, ?_⟩
    by_cases w1 : wy < 4
    · rw [decide_eq_true (show (wy : Int) < 4 by omega)]
      refine iteT ⟨(by show 3 ≤ sizeLine; decide), fun pn hpn => ?_⟩
      have b3 := b2.same (same_new (o := HO.lst (two3.map V.str)) hpn)
      obtain ⟨z, hz⟩ : ∃ z, two3[wy - 1]? = some z := ⟨_, List.getElem?_eq_getElem (by show wy - 1 < 3; omega)⟩
      have hzi := List.mem_of_getElem? hz
      have ew : (wy : Int) - 1 = ((wy - 1 : Nat) : Int) := by omega
      refine ⟨_, rfl, _, _, rfl, rfl, pn, two3.map V.str, (wy : Int) - 1, .str z, rfl, rfl, SqL.of upd_same, by rw [ew]; exact atI_nat (by rw [List.getElem?_map, hz]; rfl), ?_⟩
      refine ⟨_, rfl, _, rfl, l, rfl, b3.st, fun r H4 hr b5 => ⟨_, rfl, l, rfl, (b3.trans b5).st, fun r2 H5 hr2 b6 => ?_⟩⟩
      exact fin _ (z, ["space", "path", "path"]) [.int i, .str r, .str r2] (by show 4 ≤ 10; decide) (two_ok z hzi) (.cons (.space i hin) (.cons (.path r hr) (.cons (.path r2 hr2) .nil))) rfl ((b3.trans b5).trans b6)
    rw [decide_eq_false (show ¬ (wy : Int) < 4 by omega)]
    refine iteF ⟨_, rfl, _, _, rfl, rfl, _, rfl, ?_⟩
    by_cases w2 : wy < 6
    · rw [decide_eq_true (show (wy : Int) < 6 by omega)]
      refine iteT ⟨_, rfl, (by show 4 ≤ sizeLine; decide), fun pk hpk => ?_⟩
      have b3 := b2.same (same_new (o := HO.lst (kindsL.map V.str)) hpk)
      have nk : pk ≠ l := (ne_of_none hl2 hpk).symm
      refine ⟨l, pk, kindsL.map V.str, rfl, b3.st, upd_same, nk, by decide, by decide, fun d x H3 hx b4 => ?_⟩
      obtain ⟨kd, _, hkd, rfl⟩ := strAt hx
      have b5 := b3.trans b4
      refine ⟨(by show 2 ≤ sizeLine; decide), fun pn hpn => ?_⟩
      have b6 := b5.same (same_new (o := HO.lst (mk2.map V.str)) hpn)
      obtain ⟨z, hz⟩ : ∃ z, mk2[wy - 4]? = some z := ⟨_, List.getElem?_eq_getElem (by show wy - 4 < 2; omega)⟩
      have hzi := List.mem_of_getElem? hz
      have ew : (wy : Int) - 4 = ((wy - 4 : Nat) : Int) := by omega
      refine ⟨_, rfl, _, _, rfl, rfl, pn, mk2.map V.str, (wy : Int) - 4, .str z, rfl, rfl, SqL.of upd_same, by rw [ew]; exact atI_nat (by rw [List.getElem?_map, hz]; rfl), ?_⟩
      refine ⟨_, rfl, _, rfl, l, rfl, b6.st, fun r H4 hr b7 => ⟨_, rfl, ?_⟩⟩
      exact fin _ (z, ["space", "path", "kind"]) [.int i, .str r, .str kd] (by show 4 ≤ 10; decide) (mk_ok z hzi) (.cons (.space i hin) (.cons (.path r hr) (.cons (.kind kd hkd) .nil))) rfl (b6.trans b7)
    rw [decide_eq_false (show ¬ (wy : Int) < 6 by omega)]
    refine iteF ⟨_, rfl, _, _, rfl, rfl, _, rfl, ?_⟩
    by_cases w3 : wy < 8
    · rw [decide_eq_true (show (wy : Int) < 8 by omega)]
      refine iteT ⟨(by show 2 ≤ sizeLine; decide), fun pn hpn => ?_⟩
      have b3 := b2.same (same_new (o := HO.lst (un2.map V.str)) hpn)
      obtain ⟨z, hz⟩ : ∃ z, un2[wy - 6]? = some z := ⟨_, List.getElem?_eq_getElem (by show wy - 6 < 2; omega)⟩
      have hzi := List.mem_of_getElem? hz
      have ew : (wy : Int) - 6 = ((wy - 6 : Nat) : Int) := by omega
      refine ⟨_, rfl, _, _, rfl, rfl, pn, un2.map V.str, (wy : Int) - 6, .str z, rfl, rfl, SqL.of upd_same, by rw [ew]; exact atI_nat (by rw [List.getElem?_map, hz]; rfl), ?_⟩
      refine ⟨_, rfl, _, rfl, l, rfl, b3.st, fun r H4 hr b5 => ?_⟩
      exact fin _ (z, ["space", "path"]) [.int i, .str r] (by show 3 ≤ 10; decide) (un_ok z hzi) (.cons (.space i hin) (.cons (.path r hr) .nil)) rfl (b3.trans b5)
    rw [decide_eq_false (show ¬ (wy : Int) < 8 by omega)]
    refine iteF ⟨_, rfl, _, rfl, l, st2, _, rfl, hl2, hst2, by decide, by decide, fun d3 st3 H3 hd3 hst3 hl3 bt3 => ?_⟩
    refine ⟨rfl, ?_⟩
    exact fin _ ("clone", ["space", "bool"]) [.int i, .bl (decide (V.int (d3 : Int) = V.int 0))] (by show 3 ≤ 10; decide) (by decide +kernel) (.cons (.space i hin) (.cons (.bool _) .nil)) rfl (b2.trans ⟨⟨st3, hl3, hst3⟩, bt3⟩)
end
end K9
set_option autoImplicit true
set_option Elab.async false
set_option linter.all false
set_option maxRecDepth 100000
set_option maxHeartbeats 4000000
/-! Lists written out, whose entries are told one by one by words of our own; all that was there stays. -/
namespace Wl
open PySem PySem.Spec PyProof.Rows L2 Cm
theorem PE.weak {X : Cx} {e : Expr} {te te' : TE} (h : PE X e te) (i : ∀ σ H Q, te' σ H Q → te σ H Q) : PE X e te' := ⟨fun pins s σ H Q I g => h.run pins s σ H Q I (i σ H Q g)⟩
theorem PA.weak {X : Cx} {es : List Expr} {t t' : TA} (h : PA X es t) (i : ∀ σ H Q, t' σ H Q → t σ H Q) : PA X es t' := ⟨fun pos pins s σ H Q I g => h.run pos pins s σ H Q I (i σ H Q g)⟩
/-- what is told of a state stays true as the heap grows -/
def Stb (G : L2.St → Hp → Prop) : Prop := ∀ σ H H', Same H H' → G σ H → G σ H'
def StbR {α : Type} (R : Hp → V → α → Prop) : Prop := ∀ H H' v w, Same H H' → R H v w → R H' v w
section
variable {α : Type} {G : L2.St → Hp → Prop} {R : Hp → V → α → Prop}
/-- one value, told by w -/
def tE (G : L2.St → Hp → Prop) (R : Hp → V → α → Prop) (w : α) : TE := fun σ H Q => G σ H ∧ ∀ v H', Same H H' → R H' v w → Q v H'
/-- a row of values -/
def tEs (G : L2.St → Hp → Prop) (R : Hp → V → α → Prop) (ws : List α) : TA := fun σ H Q => G σ H ∧ ∀ xs H', Same H H' → Paired (R H') xs ws → Q xs H'
/-- a list of such -/
def LsAt (R : Hp → V → α → Prop) (H : Hp) (v : V) (ws : List α) : Prop := ∃ l xs, v = .ref l ∧ H l = some (.lst xs) ∧ Paired (R H) xs ws
theorem pd_mono {H H' : Hp} (hR : StbR R) (s : Same H H') : ∀ {xs : List V} {ws : List α}, Paired (R H) xs ws → Paired (R H') xs ws
  | _, _, .nil => .nil
  | _, _, .cons a r => .cons (hR _ _ _ _ s a) (pd_mono hR s r)
theorem stbL (hR : StbR R) : StbR (LsAt R) := fun H H' v ws s ⟨l, xs, e, h, p⟩ => ⟨l, xs, e, s _ _ h, pd_mono hR s p⟩
theorem pd_len {H : Hp} {xs : List V} {ws : List α} (p : Paired (R H) xs ws) : xs.length = ws.length := Paired.length p
theorem pd_app {F : V → α → Prop} : ∀ {xs ys : List V} {ws us : List α}, Paired F xs ws → Paired F ys us → Paired F (xs ++ ys) (ws ++ us)
  | _, _, _, _, .nil, b => b
  | _, _, _, _, .cons a r, b => .cons a (pd_app r b)
variable {X : Cx} {e : Expr} {es : List Expr} {w : α} {ws us : List α} {pos p : Pos}
theorem pa_n (G : L2.St → Hp → Prop) (R : Hp → V → α → Prop) : PA X [] (tEs G R []) := PA.weak pa_nil fun σ H Q h => h.2 [] H (fun _ _ e => e) .nil
theorem pa_c (hG : Stb G) (hR : StbR R) (he : PE X e (tE G R w)) (hr : PA X es (tEs G R ws)) (hs : starEach (e :: es) X.env = (false, eval e X.env) :: starEach es X.env := by rfl) : PA X (e :: es) (tEs G R (w :: ws)) :=
  PA.weak (pa_cons he hr hs) fun σ H Q h => ⟨h.1, fun v H1 s1 r1 => ⟨hG _ _ _ s1 h.1, fun xs H2 s2 r2 => h.2 _ _ (fun b o z => s2 b o (s1 b o z)) (.cons (hR _ _ _ _ s2 r1) r2)⟩⟩
theorem pe_l (hR : StbR R) (hz : ws.length ≤ 1000) (h : PA X es (tEs G R ws)) : PE X (.List es pos) (tE G (LsAt R) ws) :=
  PE.weak (pe_lst h) fun σ H Q g => ⟨g.1, fun xs H1 s1 r1 => ⟨by rw [pd_len r1, sizeLine_eq]; omega, fun l hl => g.2 _ _ (fun b o z => same_new hl b o (s1 b o z)) ⟨l, xs, rfl, upd_same, pd_mono hR (same_new hl) r1⟩⟩⟩
theorem pe_cat {a b : Expr} (hG : Stb G) (hR : StbR R) (hz : ws.length + us.length ≤ 1000) (ha : PE X a (tE G (LsAt R) ws)) (hb : PE X b (tE G (LsAt R) us)) : PE X (.BinOp a .Add b pos) (tE G (LsAt R) (ws ++ us)) :=
  PE.weak (pe_op op_cat ha hb) fun σ H Q g => ⟨g.1, fun v1 H1 s1 r1 => ⟨hG _ _ _ s1 g.1, fun v2 H2 s2 r2 => by
    obtain ⟨l1, xs, e1, h1, p1⟩ := stbL hR _ _ _ _ s2 r1
    obtain ⟨l2, ys, e2, h2, p2⟩ := r2
    refine ⟨l1, l2, xs, ys, e1, e2, h1, h2, by rw [pd_len p1, pd_len p2, sizeLine_eq]; omega, fun l hl => g.2 _ _ (fun b o z => same_new hl b o (s2 b o (s1 b o z))) ⟨l, _, rfl, upd_same, pd_mono hR (same_new hl) (pd_app p1 p2)⟩⟩⟩⟩
/-- the list that stands in the name i -/
def Gn (G : L2.St → Hp → Prop) (R : Hp → V → List α → Prop) (i : Nat) (ws : List α) : L2.St → Hp → Prop := fun σ H => G σ H ∧ ∃ v, σ[i]? = some (some v) ∧ R H v ws
theorem stbG {R : Hp → V → List α → Prop} {i : Nat} (hG : Stb G) (hR : StbR R) : Stb (Gn G R i ws) := fun σ H H' s ⟨g, v, e, r⟩ => ⟨hG _ _ _ s g, v, e, hR _ _ _ _ s r⟩
theorem pe_n {β : Type} {G : L2.St → Hp → Prop} {R : Hp → V → β → Prop} {i : Nat} {w : β} {x : Str} (h : PE X (.Name x p) (tVar i)) (hi : ∀ σ H, G σ H → ∃ v, σ[i]? = some (some v) ∧ R H v w) : PE X (.Name x p) (tE G R w) :=
  PE.weak h fun σ H Q g => by
    obtain ⟨v, e, r⟩ := hi σ H g.1
    exact ⟨v, e, g.2 v H (fun _ _ z => z) r⟩
/-- x = e -/
theorem ho_set {β : Type} {G G' : L2.St → Hp → Prop} {R : Hp → V → β → Prop} {i : Nat} {w : β} {x : Str} {pos' : Pos} (hN : X.N.Nodup) (hi : X.N[i]? = some x) (hx : Loc X.env.scope x) (he : PE X e (tE G R w)) (hg : ∀ σ H v H', G σ H → Same H H' → R H' v w → G' (σ.set i (some v)) H')
    (hs : swapsWith e (some (.Name x pos')) pos.line X.env = pure false := by rfl) (hf : X.fn x = true ∨ X.env.scope.names.lookup x = some .local := by first | exact .inl rfl | exact .inr rfl | assumption) : Ho X (.Assign [.Name x pos'] e pos) G G' :=
  ⟨_, ps_set hN hi hx he hs hf, fun D σ H g q => ⟨g, fun v H' s r => q _ _ (hg σ H v H' g s r)⟩⟩
/-- return e -/
theorem ho_ret {β : Type} {R : Hp → V → β → Prop} {w : β} {r : VK} (he : PE X e (tE G R w)) (hr : ∀ σ H v H', G σ H → Same H H' → R H' v w → r v H') : HoR X [.Return (some e) pos] G r :=
  ⟨_, pss_one (ps_ret he), fun D σ H g q => ⟨g, fun v H' s h => q _ _ (hr σ H v H' g s h)⟩⟩
end
end Wl
set_option autoImplicit true
set_option Elab.async false
set_option linter.all false
set_option maxRecDepth 100000
set_option maxHeartbeats 8000000
namespace K9
open PySem PySem.Spec PyProof.Rows L2 Cm Tx
/-! ### tuples told by their entries -/
def TupE : Hp → V → List EV → Prop := fun H v es => ∃ p xs, v = .ref p ∧ H p = some (.tup xs) ∧ Paired (EvAt H) xs es
theorem stbEv : Wl.StbR (fun H v e => EvAt H v e) := fun H H' v e s h => EvAt.same h s
theorem stbT : Wl.StbR TupE := fun H H' v es s ⟨p, xs, e, h, q⟩ => ⟨p, xs, e, s _ _ h, pdE s q⟩
theorem pd_drop {α : Type} {F : V → α → Prop} : ∀ (n : Nat) {xs : List V} {ws : List α}, Paired F xs ws → Paired F (xs.drop n) (ws.drop n)
  | 0, _, _, h => h
  | n + 1, _, _, .nil => .nil
  | n + 1, _, _, .cons _ r => pd_drop n r
theorem pd_take {α : Type} {F : V → α → Prop} : ∀ (n : Nat) {xs : List V} {ws : List α}, Paired F xs ws → Paired F (xs.take n) (ws.take n)
  | 0, _, _, _ => .nil
  | n + 1, _, _, .nil => .nil
  | n + 1, _, _, .cons a r => .cons a (pd_take n r)
def cutE (es : List EV) (lo hi : Option Int) : List EV := (es.drop (HT.sIx es.length 0 lo)).take (HT.sIx es.length es.length hi - HT.sIx es.length 0 lo)
theorem pd_cut {H : Hp} {xs : List V} {es : List EV} (lo hi : Option Int) (p : Paired (EvAt H) xs es) : Paired (EvAt H) (cutV xs lo hi) (cutE es lo hi) := by
  have e : xs.length = es.length := Paired.length p
  unfold cutV cutE
  rw [e]
  exact pd_take _ (pd_drop _ p)
section
variable {X : Cx} {G : L2.St → Hp → Prop} {e e1 e2 : Expr} {es es1 es2 : List EV} {ev : EV} {pos p : Pos} {ts : List Expr} {k : Nat}
theorem pe_tupE (hz : es.length ≤ 900) (h : PA X ts (Wl.tEs G (fun H v e => EvAt H v e) es)) : PE X (.Tuple ts k pos) (Wl.tE G TupE es) :=
  Wl.PE.weak (pe_tup h) fun σ H Q g => ⟨g.1, fun xs H1 s1 r1 => ⟨by rw [show xs.length = es.length from Paired.length r1, sizeLine_eq]; omega, fun l hl => g.2 _ _ (s1.trans (same_new hl)) ⟨l, xs, rfl, upd_same, pdE (same_new hl) r1⟩⟩⟩
theorem pe_catE (hG : Wl.Stb G) (hz : es1.length + es2.length ≤ 900) (h1 : PE X e1 (Wl.tE G TupE es1)) (h2 : PE X e2 (Wl.tE G TupE es2)) : PE X (.BinOp e1 .Add e2 pos) (Wl.tE G TupE (es1 ++ es2)) :=
  Wl.PE.weak (pe_op op_catA h1 h2) fun σ H Q g => ⟨g.1, fun v1 H1 s1 r1 => ⟨hG _ _ _ s1 g.1, fun v2 H2 s2 r2 => by
    obtain ⟨p1, xs, rfl, hp1, q1⟩ := stbT _ _ _ _ s2 r1
    obtain ⟨p2, ys, rfl, hp2, q2⟩ := r2
    have l1 : xs.length = es1.length := Paired.length q1
    have l2 : ys.length = es2.length := Paired.length q2
    have sm := s1.trans s2
    refine ⟨p1, p2, xs, ys, rfl, rfl, SqT.of hp1, SqT.of hp2, by rw [sizeLine_eq]; omega, fun e => ?_, fun n e => ?_, fun _ _ l hl => ?_⟩
    · subst e
      cases q1
      exact g.2 _ _ sm ⟨p2, ys, rfl, hp2, q2⟩
    · subst e
      cases q2
      rw [List.append_nil] at g
      exact g.2 _ _ sm ⟨p1, xs, rfl, hp1, q1⟩
    · exact g.2 _ _ (sm.trans (same_new hl)) ⟨l, _, rfl, upd_same, pdE (same_new hl) (Wl.pd_app q1 q2)⟩⟩⟩
theorem pe_sliceE {lo hi : Option Expr} {tl th : TO} {l h : Option Int} {p2 : Pos} (h1 : PE X e (Wl.tE G TupE es)) (hl : PO X lo tl) (hh : PO X hi th) (el : ∀ σ H (Q : Option Int → Hp → Prop), Q l H → tl σ H Q) (eh : ∀ σ H (Q : Option Int → Hp → Prop), Q h H → th σ H Q) : PE X (.Subscript e (.Slice lo hi none p2) pos) (Wl.tE G TupE (cutE es l h)) :=
  Wl.PE.weak (pe_slice sl_tupA h1 hl hh) fun σ H Q g => ⟨g.1, fun v H1 s1 r1 => el _ _ _ (eh _ _ _ (by
    obtain ⟨p1, xs, rfl, hp1, q1⟩ := r1
    have l1 : xs.length = es.length := Paired.length q1
    refine ⟨p1, xs, rfl, SqT.of hp1, fun z => ?_, fun _ q hq => g.2 _ _ (s1.trans (same_new hq)) ⟨q, _, rfl, upd_same, pdE (same_new hq) (pd_cut l h q1)⟩⟩
    have ec : cutE es l h = es := by
      unfold cutE
      rw [l1] at z
      rw [z.1, z.2]
      exact List.take_of_length_le (by simp)
    rw [ec] at g
    exact g.2 _ _ s1 ⟨p1, xs, rfl, hp1, q1⟩))⟩
/-- entries -/
theorem pe_evS {z : Str} {j : Nat} (hz : z.length ≤ 100000) : PE X (.Constant (.str z) j pos) (Wl.tE G (fun H v e => EvAt H v e) (.str z)) := Wl.PE.weak pe_str fun σ H Q g => g.2 _ _ (Same.refl H) ⟨rfl, hz⟩
theorem pe_evI {i : Int} {j : Nat} : PE X (.Constant (.int i) j pos) (Wl.tE G (fun H v e => EvAt H v e) (.int i)) := Wl.PE.weak pe_int fun σ H Q g => g.2 _ _ (Same.refl H) rfl
theorem pe_evN {j : Nat} : PE X (.Constant .none j pos) (Wl.tE G (fun H v e => EvAt H v e) .oth) := Wl.PE.weak pe_non fun σ H Q g => g.2 _ _ (Same.refl H) (.inl rfl)
theorem pe_evL : PE X (.List [] pos) (Wl.tE G (fun H v e => EvAt H v e) .oth) := Wl.PE.weak (pe_lst pa_nil) fun σ H Q g => ⟨by show 0 ≤ sizeLine; decide, fun l hl => g.2 _ _ (same_new hl) (.inr ⟨l, rfl, .inl ⟨_, upd_same⟩⟩)⟩
theorem pe_evV {i : Nat} {x : Str} (h : PE X (.Name x p) (tVar i)) (hi : ∀ σ H, G σ H → ∃ v, σ[i]? = some (some v) ∧ EvAt H v ev) : PE X (.Name x p) (Wl.tE G (fun H v e => EvAt H v e) ev) := Wl.pe_n h hi
end

theorem pe_evB {X : Cx} {G : L2.St → Hp → Prop} {b : Bool} {j : Nat} {pos : Pos} : PE X (.Constant (.bool b) j pos) (Wl.tE G (fun H v e => EvAt H v e) (.bl b)) := Wl.PE.weak pe_bl fun σ H Q g => g.2 _ _ (Same.refl H) rfl
theorem pe_evD {X : Cx} {G : L2.St → Hp → Prop} {pos : Pos} : PE X (.Dict [] [] pos) (Wl.tE G (fun H v e => EvAt H v e) .oth) := Wl.PE.weak pe_dnewK fun σ H Q g p hp => g.2 _ _ (same_new hp) (.inr ⟨p, rfl, .inr (.inr ⟨_, upd_same⟩)⟩)
theorem pe_evT {X : Cx} {G : L2.St → Hp → Prop} {es : List EV} {e : Expr} (h : PE X e (Wl.tE G TupE es)) : PE X e (Wl.tE G (fun H v e => EvAt H v e) .oth) := Wl.PE.weak h fun σ H Q g => ⟨g.1, fun v H1 s1 ⟨p, xs, e, hp, q⟩ => g.2 _ _ s1 (.inr ⟨p, e, .inr (.inl ⟨xs, hp⟩)⟩)⟩
theorem pe_evP {X : Cx} {G : L2.St → Hp → Prop} {a b : Int} {j k : Nat} {p1 p2 pos : Pos} {i : Int} (h : a ^ b.toNat = i) (ok : CPow a b) : PE X (.BinOp (.Constant (.int a) j p1) .Pow (.Constant (.int b) k p2) pos) (Wl.tE G (fun H v e => EvAt H v e) (.int i)) := Wl.PE.weak (pe_op op_pow pe_int pe_int) fun σ H Q g => ⟨a, b, rfl, rfl, ok, by subst h; exact g.2 _ _ (Same.refl H) rfl⟩
theorem EvAt.but {H H' : Hp} {l : Addr} {u : V} {e : EV} (h : EvAt H u e) (b : But l H H') (hl : StAt H l) (hl' : StAt H' l) : EvAt H' u e := by
  obtain ⟨st, hl, ok⟩ := hl
  obtain ⟨st', hl', ok'⟩ := hl'
  cases e with
  | oth =>
    rcases h with h | ⟨p, e, ⟨xs, h⟩ | ⟨xs, h⟩ | ⟨xs, h⟩⟩
    · exact .inl h
    · by_cases z : p = l
      · subst z
        exact .inr ⟨p, e, .inl ⟨st', hl'⟩⟩
      · exact .inr ⟨p, e, .inl ⟨xs, b _ _ z h⟩⟩
    · exact .inr ⟨p, e, .inr (.inl ⟨xs, b _ _ (ne_of h hl (by intro z; cases z)) h⟩)⟩
    · exact .inr ⟨p, e, .inr (.inr ⟨xs, b _ _ (ne_of h hl (by intro z; cases z)) h⟩)⟩
  | _ => exact h
theorem pdB {H H' : Hp} {l : Addr} (b : But l H H') (hl : StAt H l) (hl' : StAt H' l) : ∀ {xs : List V} {es : List EV}, Paired (EvAt H) xs es → Paired (EvAt H') xs es
  | _, _, .nil => .nil
  | _, _, .cons a r => .cons (EvAt.but a b hl hl') (pdB b hl hl' r)
theorem TupE.but {H H' : Hp} {l : Addr} {v : V} {es : List EV} (h : TupE H v es) (b : But l H H') (hl : StAt H l) (hl' : StAt H' l) : TupE H' v es := by
  obtain ⟨p, xs, e, hp, q⟩ := h
  have np : p ≠ l := by
    obtain ⟨st, hl, _⟩ := hl
    exact ne_of hp hl (by intro z; cases z)
  exact ⟨p, xs, e, b _ _ np hp, pdB b hl hl' q⟩

end K9
set_option Elab.async false
set_option linter.all false
set_option maxRecDepth 100000
set_option maxHeartbeats 8000000
set_option autoImplicit false
/-! _law_wrong: what is no deed, plain -/
namespace K9
open PySem PySem.Spec PyProof.Rows L2 Cm Tx Tk
def oddE : List EV := [.oth, .bl true, .int 5, .str "a", .str "", .str "a/b", .oth, .oth, .oth, .str "//", .str "wrong", .int 1000, .str "/a\n", .str "alone\n"]
def sorts4 : List Str := ["space", "path", "kind", "bool"]
theorem odd_fit : ∀ e ∈ oddE, ∀ s ∈ sorts4, (s = "space" → e ≠ .int 5 ∧ e ≠ .int 1000) → (s = "bool" → e ≠ .bl true) → fitB e s = false := by decide +kernel
theorem x_fit : ∀ s ∈ sorts4, fitB (.str "x") s = false := by decide +kernel
def headE : List EV := [.str "mounts", .str "bind-all", .str "", .oth, .int 5, .str "Mount", .oth, .oth]
theorem goodT_goodW {word : Str} {es : List EV} (h : goodW word es = false) : goodT (.tup (.str word :: es)) = false := by
  rw [goodT_eq]
  unfold goodW at h
  cases hd : deedB (.tup (.str word :: es)) with
  | false => rfl
  | true =>
    rw [hd, Bool.true_and] at h
    rw [h]
    rfl
theorem goodT_len {p : Str × List Str} (h : p ∈ formsL) {es : List EV} (hl : es.length ≠ p.2.length) : goodT (.tup (.str p.1 :: es)) = false := by
  rw [goodT_eq, deedB_form h, if_neg hl]
  rfl
theorem goodT_put {p : Str × List Str} (h : p ∈ formsL) {es : List EV} {j : Nat} {e : EV} {s : Str} (he : es[j]? = some e) (hs : p.2[j]? = some s) (hb : fitB e s = false) : goodT (.tup (.str p.1 :: es)) = false := by
  by_cases hl : es.length = p.2.length
  · refine goodT_goodW ?_
    rw [goodW_form h hl, List.all_eq_false]
    refine ⟨fitB e s, List.mem_map.mpr ⟨(e, s), List.mem_iff_getElem?.mpr ⟨j, List.getElem?_zip_eq_some.mpr ⟨he, hs⟩⟩, rfl⟩, ?_⟩
    rw [hb]
    exact Bool.false_ne_true
  · exact goodT_len h hl
def headB : EV → Bool
  | .str z => decide (formOf z = none) && decide (z ∈ noWords)
  | _ => true
theorem headB_ok : ∀ e ∈ headE, headB e = true := by decide +kernel
theorem head_no (e : EV) (h : e ∈ headE) (z : Str) (e1 : e = .str z) : formOf z = none ∧ z ∈ noWords := by
  subst e1
  have := headB_ok _ h
  unfold headB at this
  rw [Bool.and_eq_true, decide_eq_true_eq, decide_eq_true_eq] at this
  exact this
theorem goodT_head {e : EV} (h : e ∈ headE) (es : List EV) : goodT (.tup (e :: es)) = false := by
  cases e with
  | str z =>
    rw [goodT_eq, deedB_str, (head_no _ h z rfl).1]
    rfl
  | _ => rfl
/-- what is no deed -/
def NoW : Hp → V → Unit → Prop := fun H v _ => ∃ t, TvAt H v t ∧ goodT t = false
theorem stbW : Wl.StbR NoW := fun H H' v _ s ⟨t, h, b⟩ => ⟨t, h.same s, b⟩
section
variable {X : Cx} {G : L2.St → Hp → Prop} {e : Expr} {es : List EV} {pos p : Pos}
theorem pe_noE {ev : EV} (h : PE X e (Wl.tE G (fun H v e => EvAt H v e) ev)) (hv : ∀ H v, EvAt H v ev → TvAt H v .no) : PE X e (Wl.tE G NoW ()) := Wl.PE.weak h fun σ H Q g => ⟨g.1, fun v H' s r => g.2 v H' s ⟨.no, hv _ _ r, rfl⟩⟩
theorem pe_noN {j : Nat} : PE X (.Constant .none j pos) (Wl.tE G NoW ()) := Wl.PE.weak pe_non fun σ H Q g => g.2 _ _ (Same.refl H) ⟨.no, .inl rfl, rfl⟩
theorem pe_noS {z : Str} {j : Nat} : PE X (.Constant (.str z) j pos) (Wl.tE G NoW ()) := Wl.PE.weak pe_str fun σ H Q g => g.2 _ _ (Same.refl H) ⟨.no, .inr (.inl ⟨z, rfl⟩), rfl⟩
theorem pe_noI {i : Int} {j : Nat} : PE X (.Constant (.int i) j pos) (Wl.tE G NoW ()) := Wl.PE.weak pe_int fun σ H Q g => g.2 _ _ (Same.refl H) ⟨.no, .inr (.inr (.inr (.inl ⟨i, rfl⟩))), rfl⟩
theorem pe_noB {b : Bool} {j : Nat} : PE X (.Constant (.bool b) j pos) (Wl.tE G NoW ()) := Wl.PE.weak pe_bl fun σ H Q g => g.2 _ _ (Same.refl H) ⟨.no, .inr (.inr (.inr (.inr ⟨b, rfl⟩))), rfl⟩
theorem pe_noL : PE X (.List [] pos) (Wl.tE G NoW ()) := Wl.PE.weak (pe_lst pa_nil) fun σ H Q g => ⟨by show 0 ≤ sizeLine; decide, fun l hl => g.2 _ _ (same_new hl) ⟨.no, .inr (.inr (.inl ⟨l, rfl, .inl ⟨_, upd_same⟩⟩)), rfl⟩⟩
theorem pe_noD : PE X (.Dict [] [] pos) (Wl.tE G NoW ()) := Wl.PE.weak pe_dnewK fun σ H Q g q hq => g.2 _ _ (same_new hq) ⟨.no, .inr (.inr (.inl ⟨q, rfl, .inr ⟨_, upd_same⟩⟩)), rfl⟩
theorem pe_noT {k : Nat} : PE X (.Tuple [] k pos) (Wl.tE G NoW ()) := Wl.PE.weak (pe_tup pa_nil) fun σ H Q g => ⟨by show 0 ≤ sizeLine; decide, fun l hl => g.2 _ _ (same_new hl) ⟨.tup [], ⟨l, [], rfl, upd_same, .nil, by decide, fun z h => by cases h⟩, rfl⟩⟩
/-- (e,), e a tuple -/
theorem pe_noT1 {k : Nat} (h : PE X e (Wl.tE G TupE es)) (hs : starEach [e] X.env = (false, eval e X.env) :: starEach [] X.env := by rfl) : PE X (.Tuple [e] k pos) (Wl.tE G NoW ()) := Wl.PE.weak (pe_tup (pa_cons h pa_nil (hs := hs))) fun σ H Q g => ⟨g.1, fun v H1 s1 ⟨q, xs, ev, hq, _⟩ => ⟨by show 1 ≤ sizeLine; decide, fun l hl => g.2 _ _ (s1.trans (same_new hl)) ⟨.tup [.oth], ⟨l, [v], rfl, upd_same, .cons (.inr ⟨q, ev, .inr (.inl ⟨xs, same_new hl _ _ hq⟩)⟩) .nil, by decide, fun z h => by cases h⟩, rfl⟩⟩⟩
end
end K9
set_option Elab.async false
set_option linter.all false
set_option maxRecDepth 100000
set_option maxHeartbeats 8000000
set_option autoImplicit false
/-! _law_wrong, walked -/
namespace K9
open PySem PySem.Spec PyProof.Rows L2 Cm Tx Tk
abbrev nWr : List Str := ["_law_state", "_law_deed_here", "_law_odd", "_law_way", "_law_at", "_law_bad"]
theorem scWr : FnScope nWr ["_law_state", "_law_deed_here"] (defScope sWrong) := ⟨rfl, rfl, rfl, by decide +kernel, rfl, by decide +kernel, by decide +kernel⟩
def stW (i : Nat) : Stmt := (defBody sWrong).getD i (.Pass ⟨0, 0, 0, 0⟩)
theorem bodyWr : defBody sWrong = [stW 0, stW 1, stW 2, stW 3, stW 4, stW 5, stW 6, stW 7, stW 8, stW 9, stW 10] := rfl
abbrev XWr (P : Program) (w : World) (K : PySem.W.Frag) (mg : Str → Option Value) (base : Heap) (f : Addr) (cdv : Value) (A : Around) (outer : List Env) (s : Shared) (H0 : Hp) (E : XK) : Cx := (cxOf CX0 P w K mg base nWr "_law_wrong" (defScope sWrong) f cdv A outer s H0 E).nox
def W0 (H0 : Hp) (l : Addr) (dv : V) (ds : List EV) : L2.St → Hp → Prop := fun σ H => σ = [some (.ref l), some dv, none, none, none, none] ∧ TupE H dv ds ∧ StAt H l ∧ Bs H0 l H
def W1 (H0 : Hp) (l : Addr) (dv : V) (ds : List EV) : L2.St → Hp → Prop := fun σ H => ∃ o x4 x5 x6, σ = [some (.ref l), some dv, some o, x4, x5, x6] ∧ TupE H dv ds ∧ StAt H l ∧ Bs H0 l H ∧ Wl.LsAt (fun H v e => EvAt H v e) H o oddE
section
variable {P : Program} {w : World} {K : PySem.W.Frag} {mg : Str → Option Value} {base : Heap} {f : Addr} {cdv : Value} {A : Around} {outer : List Env} {s : Shared} {H0 : Hp} {E : XK} {l : Addr} {dv : V} {ds : List EV}
theorem gsW0 : Wl.Stb (W0 H0 l dv ds) := fun σ H H' s ⟨e, t, st, b⟩ => ⟨e, stbT _ _ _ _ s t, (let ⟨z, h, o⟩ := st; ⟨z, s _ _ h, o⟩), b.same s⟩
theorem hW0 : Ho (XWr P w K mg base f cdv A outer s H0 E) (stW 0) (W0 H0 l dv ds) (W1 H0 l dv ds) := by
  refine Wl.ho_set (i := 2) scWr.nd rfl (.inl rfl) (Wl.pe_l stbEv (by decide) (Wl.pa_c gsW0 stbEv pe_evN (Wl.pa_c gsW0 stbEv pe_evB (Wl.pa_c gsW0 stbEv pe_evI (Wl.pa_c gsW0 stbEv (pe_evS (by decide +kernel)) (Wl.pa_c gsW0 stbEv (pe_evS (by decide +kernel)) (Wl.pa_c gsW0 stbEv (pe_evS (by decide +kernel)) (Wl.pa_c gsW0 stbEv pe_evL (Wl.pa_c gsW0 stbEv pe_evD
    (Wl.pa_c gsW0 stbEv (pe_evT (es := [.str "/a"]) (pe_tupE (by decide) (Wl.pa_c gsW0 stbEv (pe_evS (by decide +kernel)) (Wl.pa_n _ _)))) (Wl.pa_c gsW0 stbEv (pe_evS (by decide +kernel)) (Wl.pa_c gsW0 stbEv (pe_evS (by decide +kernel)) (Wl.pa_c gsW0 stbEv (pe_evP (i := 1000) (by decide +kernel) ⟨by decide, by decide, by decide⟩) (Wl.pa_c gsW0 stbEv (pe_evS (by decide +kernel)) (Wl.pa_c gsW0 stbEv (pe_evS (by decide +kernel)) (Wl.pa_n _ _)))))))))))))))) ?_
  rintro σ H v H' ⟨rfl, t, st, b⟩ sm r
  exact ⟨v, none, none, none, rfl, stbT _ _ _ _ sm t, (let ⟨z, h, o⟩ := st; ⟨z, sm _ _ h, o⟩), b.same sm, r⟩
end
end K9
set_option Elab.async false
set_option linter.all false
set_option maxRecDepth 100000
set_option maxHeartbeats 4000000
set_option autoImplicit false
/-! an int against a dict -/
namespace K9
open PySem PySem.Spec
theorem sub_dict_int : isSubtype (.type "dict") (.type "int") = pure false := by rw [isSubtype_type]; kernel_rfl
theorem sub_int_dict : isSubtype (.type "int") (.type "dict") = pure false := by rw [isSubtype_type]; kernel_rfl
theorem slot_dict_eqR : Slot "dict" (cmpInfo .Eq).2.2 "dict.__eq__" := PySem.F.slot_dict_eq
theorem dict_eq_declines_int (l : Addr) (es : Array DictEntry) (n : Nat) (b : Int) (u : Tok) :
    Meets (Builtin.«dict.__eq__» ⟨[.ref l, .int b u], []⟩) (fun _ R s => s.heap.get? l = some { cls := .type "dict", data := .dict es n } ∧ R (.ok (.ret .notImplemented)) s) :=
  .of_wp fun prog w A R s h => by obtain ⟨hp, g, d, tk, os⟩ := s; obtain ⟨hl, h⟩ := h; have f1 := sub_int_dict; wp_walk using wpAny_loadPart' hl, wpAny_load hl; exact ⟨_, rfl, h⟩
theorem int_eq_declines_dict (b : Int) (u : Tok) (l : Addr) (es : Array DictEntry) (n : Nat) :
    Meets (Builtin.«int.__eq__» ⟨[.int b u, .ref l], []⟩) (fun _ R s => s.heap.get? l = some { cls := .type "dict", data := .dict es n } ∧ R (.ok (.ret .notImplemented)) s) :=
  .of_wp fun prog w A R s h => by obtain ⟨hp, g, d, tk, os⟩ := s; obtain ⟨hl, h⟩ := h; wp_walk using wpAny_loadPart' hl, wpAny_load hl; exact ⟨_, rfl, h⟩
theorem rc_int_dict {A : Around} {s : Shared} {l : Addr} {es : Array DictEntry} {n : Nat} (b : Int) (u : Tok) (ho : s.heap.get? l = some { cls := .type "dict", data := .dict es n }) (hu : A.units < cLine) : PySem.SeqAt.RcAt A s (.int b u) (.ref l) false := fun prog w E Q h =>
  PySem.SeqAt.rc_eq_decline_or (k := false) (typeIs_int s b u) ⟨_, ho, rfl⟩ (by decide) sub_dict_int PySem.F.slot_int_eq PySem.F.slot_dict_eq_refl
    (fun _ hq => call_meets PySem.F.slot_int_eq (typeIs_int s b u) PySem.F.entry_int_eq (PySem.F.args_int_eq_2 _ _) (int_eq_declines_dict b u l es n) ⟨ho, hq⟩)
    (fun _ hq => call_meets PySem.F.slot_dict_eq_refl ⟨_, ho, rfl⟩ PySem.F.entry_dict_eq (PySem.F.args_dict_eq_2 _ _) (dict_eq_declines_int l es n b u) ⟨ho, hq⟩)
    (fun _ hq => wpAny_of_eq (rfl : isSame (.int b u) (.ref l) = pure false) hq) (.inr hu) h
theorem eq_int_dict {A : Around} {s : Shared} {l : Addr} {es : Array DictEntry} {n : Nat} (b : Int) (u : Tok) (ho : s.heap.get? l = some { cls := .type "dict", data := .dict es n }) (hu : A.units < cLine) : PySem.SeqAt.EqAt A s (.int b u) (.ref l) false := fun prog w E Q h => by
  unfold eqBool
  refine wpAny_holding ?_
  refine wpAny_ite_split (fun hab => absurd (eq_of_beq hab) nofun) (fun _ => ?_)
  exact wpAny_bind (rc_int_dict b u ho hu prog w E _ (wpAny_truthy_bool h))
end K9
set_option Elab.async false
set_option linter.all false
set_option maxRecDepth 100000
set_option maxHeartbeats 4000000
set_option autoImplicit false
/-! an entry in a tuple of ints; an entry is True -/
namespace K9
open PySem PySem.Spec PyProof.Rows L2 Cm Tx
def hitI : EV → Int → Bool
  | .int i, j => j == i
  | .bl b, j => j == (if b then 1 else 0)
  | _, _ => false
def rInI (K : PySem.W.Frag) : R2 := fun x y H Q => ∃ (a : Addr) (is : List Int) (e : EV), y = .ref a ∧ SqT K H a (is.map V.int) ∧ EvAt H x e ∧ Q (.bl (is.any (hitI e))) H
def hitU (e : EV) : Value → Bool
  | .int j _ => hitI e j
  | _ => false
theorem any_ints {e : EV} : ∀ {is : List Int} {its : List Value}, Vals (is.map V.int) its → its.any (hitU e) = is.any (hitI e)
  | [], _, h => by
    cases h
    rfl
  | i :: r, _, h => by
    cases h with
    | cons a b =>
      obtain ⟨t, rfl⟩ := a
      rw [List.any_cons, List.any_cons, any_ints b]
      rfl
theorem mem_ints : ∀ {is : List Int} {its : List Value}, Vals (is.map V.int) its → ∀ y ∈ its, ∃ j t, y = .int j t
  | [], _, h, y, hy => by
    cases h
    cases hy
  | i :: r, _, h, y, hy => by
    cases h with
    | cons a b =>
      cases hy with
      | head =>
        obtain ⟨t, rfl⟩ := a
        exact ⟨_, _, rfl⟩
      | tail _ hy => exact mem_ints b y hy
theorem op_inI {X : Cx} (hu : X.A.units + 64 < cLine) : OpR X (compareOp .In) (rInI X.K) := by
  intro pins s σ H x y v u Q I rx ry h
  obtain ⟨a, is, e, rfl, ha, he, q⟩ := h
  cases ry
  obtain ⟨its, r1, p1, _⟩ := I.tuple ha
  have hu1 : X.A.in1.units < cLine := Nat.lt_of_le_of_lt (by show _ ≤ X.A.units + 64; exact Nat.le_trans (Nat.le_of_eq rfl : X.A.in1.units ≤ X.A.units + 1) (by omega)) hu
  refine PySem.SeqAt.in_tupleAt (hitU e) (show s.heap.IsTuple a its.toArray from p1) (fun y hy => ?_) ?_
  · obtain ⟨j, t, rfl⟩ := mem_ints r1 y (by simpa using hy)
    cases e with
    | int i =>
      cases (show x = .int i from he)
      obtain ⟨t2, rfl⟩ := rx
      exact PySem.SeqAt.EqAt.int_int j t i t2
    | bl b =>
      cases (show x = .bl b from he)
      cases (show v = Value.bool b from rx)
      exact PySem.SeqAt.EqAt.int_bool j t b
    | str z =>
      cases (show x = .str z from he.1)
      obtain ⟨t2, rfl⟩ := rx
      exact PySem.SeqAt.EqAt.int_str j t z t2
    | oth =>
      rcases he with rfl | ⟨p, rfl, ⟨xs, hp⟩ | ⟨xs, hp⟩ | ⟨xs, hp⟩⟩
      · cases rx
        exact PySem.SeqAt.EqAt.int_none j t
      · cases rx
        obtain ⟨its2, r2, p2, _⟩ := I.list (SqL.of hp)
        exact PySem.SeqAt.EqAt.int_list j t p2.isList hu1
      · cases rx
        obtain ⟨its2, r2, p2, _⟩ := I.tuple (SqT.of hp)
        exact PySem.SeqAt.EqAt.int_tuple j t (show s.heap.IsTuple p its2.toArray from p2) hu1
      · cases rx
        obtain ⟨_, _, vs, _, ⟨oc, od, odt, osl⟩, es, ep, ho, ⟨h1, h2, h3⟩, hd, _⟩ := dk_of I.hok hp
        dsimp only at h1 h2 h3 hd
        subst h1 h2 h3 hd
        exact eq_int_dict j t ho hu1
  · rw [List.any_toArray, any_ints r1]
    exact ⟨.bl _, H, I, rfl, q⟩
def isTrueE : EV → Bool
  | .bl b => b
  | _ => false
def rIsT : R2 := fun x y H Q => ∃ e, y = .bl true ∧ EvAt H x e ∧ Q (.bl (isTrueE e)) H
theorem op_isT {X : Cx} : OpR X (compareOp .Is) rIsT := by
  intro pins s σ H x y v u Q I rx ry h
  obtain ⟨e, rfl, he, q⟩ := h
  cases (show u = Value.bool true from ry)
  cases e with
  | bl b =>
    cases (show x = .bl b from he)
    cases (show v = Value.bool b from rx)
    cases b with
    | true => exact wpAny_is_self rfl ⟨.bl true, H, I, rfl, q⟩
    | false => exact wpAny_is_other rfl (fun z => by cases z) ⟨.bl false, H, I, rfl, q⟩
  | int i =>
    cases (show x = .int i from he)
    obtain ⟨t, rfl⟩ := rx
    exact wpAny_is_other rfl (fun z => by cases z) ⟨.bl false, H, I, rfl, q⟩
  | str z =>
    cases (show x = .str z from he.1)
    obtain ⟨t, rfl⟩ := rx
    exact wpAny_is_other rfl (fun z => by cases z) ⟨.bl false, H, I, rfl, q⟩
  | oth =>
    rcases he with rfl | ⟨p, rfl, _⟩
    · cases rx
      exact wpAny_is_other rfl (fun z => by cases z) ⟨.bl false, H, I, rfl, q⟩
    · cases rx
      exact wpAny_is_other rfl (fun z => by cases z) ⟨.bl false, H, I, rfl, q⟩
end K9
set_option Elab.async false
set_option linter.all false
set_option maxRecDepth 100000
set_option maxHeartbeats 8000000
set_option autoImplicit false
/-! _law_wrong, walked: the draws and the first returns -/
namespace K9
open PySem PySem.Spec PyProof.Rows L2 Cm Tx Tk
/-- a statement that goes on or returns -/
def HoI (X : Cx) (st : Stmt) (p q : L2.St → Hp → Prop) (r : VK) : Prop := ∃ t, PS X st t ∧ ∀ (D : Ends) σ H, p σ H → (∀ σ' H', q σ' H' → D.nx σ' H') → (∀ v H', r v H' → D.rt v H') → t D σ H
theorem HoI.cons {X : Cx} {st : Stmt} {rest : List Stmt} {p q : L2.St → Hp → Prop} {r : VK} (a : HoI X st p q r) (b : HoR X rest q r) : HoR X (st :: rest) p r := by
  obtain ⟨t, ht, h1⟩ := a
  obtain ⟨u, hu, h2⟩ := b
  exact ⟨_, pss_cons ht hu, fun D σ H hp hr => h1 _ σ H hp (fun σ' H' hq => h2 D σ' H' hq hr) hr⟩
abbrev EvR : Hp → V → EV → Prop := fun H v e => EvAt H v e
theorem lsBut {H H' : Hp} {l : Addr} {v : V} {ws : List EV} (h : Wl.LsAt EvR H v ws) (b : But l H H') (hl : StAt H l) (hl' : StAt H' l) (n : 3 < ws.length) : Wl.LsAt EvR H' v ws ∧ ∀ a, v = .ref a → a ≠ l := by
  obtain ⟨a, xs, e, ha, p⟩ := h
  have lx : xs.length = ws.length := Paired.length p
  have na : a ≠ l := by
    obtain ⟨st, h2, ok⟩ := hl
    refine ne_of ha h2 fun z => ?_
    have z2 := HO.lst.inj z
    rcases ok with ⟨c, rfl⟩ | ⟨x, y, c, rfl⟩
    · rw [z2] at lx
      simp at lx
      omega
    · rw [z2] at lx
      simp at lx
      omega
  exact ⟨⟨a, xs, e, b _ _ na ha, pdB b hl hl' p⟩, fun c hc => by rw [e] at hc; cases hc; exact na⟩
def W2 (H0 : Hp) (l : Addr) (dv : V) (ds : List EV) : L2.St → Hp → Prop := fun σ H => ∃ o, ∃ wy : Nat, ∃ x5 x6, σ = [some (.ref l), some dv, some o, some (.int wy), x5, x6] ∧ wy < 6 ∧ TupE H dv ds ∧ StAt H l ∧ Bs H0 l H ∧ Wl.LsAt EvR H o oddE
def W3 (H0 : Hp) (l : Addr) (dv : V) (ds : List EV) (at_ : Nat) : L2.St → Hp → Prop := fun σ H => ∃ o, ∃ wy : Nat, ∃ x6, σ = [some (.ref l), some dv, some o, some (.int wy), some (.int at_), x6] ∧ wy < 6 ∧ TupE H dv ds ∧ StAt H l ∧ Bs H0 l H ∧ Wl.LsAt EvR H o oddE
def RW (H0 : Hp) (l : Addr) : VK := fun v H' => NoW H' v () ∧ Bs H0 l H'
section
variable {P : Program} {w : World} {K : PySem.W.Frag} {mg : Str → Option Value} {base : Heap} {f : Addr} {cdv : Value} {A : Around} {outer : List Env} {s : Shared} {H0 : Hp} {E : XK} {l : Addr} {dv : V} {ds : List EV} {j at_ : Nat}
theorem hW1 (Dg : Cl P w K mg base CX0 1 "_law_digit" ["_law_state", "_law_base"] spDigit) (hr : Room (j + 1) (XWr P w K mg base f cdv A outer s H0 E).A) : Ho (XWr P w K mg base f cdv A outer s H0 E) (stW 1) (W1 H0 l dv ds) (W2 H0 l dv ds) := by
  refine ⟨_, ps_set (i := 3) scWr.nd rfl (.inl rfl) (pe_cl Dg hr (by omega) (by rfl) pass0 (pa_cons (pv 0) (pa_cons pe_int pa_nil))), ?_⟩
  rintro D σ H ⟨o, x4, x5, x6, rfl, t, st, b, ls⟩ q
  have st0 := st
  obtain ⟨z, hl, ok⟩ := st
  exact ⟨_, rfl, l, z, _, rfl, hl, ok, by decide, by decide, fun d z' H1 hd ok' hl' bt => q _ _ ⟨o, d, _, _, rfl, by omega, TupE.but t bt st0 ⟨z', hl', ok'⟩, ⟨z', hl', ok'⟩, b.trans ⟨⟨z', hl', ok'⟩, bt⟩, (lsBut ls bt st0 ⟨z', hl', ok'⟩ (by decide)).1⟩⟩
theorem hW2 (B : Bi mg) (Dg : Cl P w K mg base CX0 1 "_law_digit" ["_law_state", "_law_base"] spDigit) (hr : Room (j + 1) (XWr P w K mg base f cdv A outer s H0 E).A) (hl2 : 2 ≤ ds.length) (hl9 : ds.length ≤ 9) : Ho (XWr P w K mg base f cdv A outer s H0 E) (stW 2) (W2 H0 l dv ds) (fun σ H => ∃ at_ : {n : Nat // 1 ≤ n ∧ n < ds.length}, W3 H0 l dv ds at_.1 σ H) := by
  refine ⟨_, ps_set (i := 4) scWr.nd rfl (.inl rfl) (pe_op op_add pe_int (pe_cl Dg hr (by omega) (by rfl) pass0 (pa_cons (pv 0) (pa_cons (pe_op op_sub (pe_callB call_len_seq (by rfl) B.len PySem.boot_len (pa_cons (pv 1) pa_nil)) pe_int) pa_nil)))), ?_⟩
  rintro D σ H ⟨o, wy, x5, x6, rfl, hw, t, st, b, ls⟩ q
  have st0 := st
  have t0 := t
  obtain ⟨z, hl, ok⟩ := st
  obtain ⟨a, xs, rfl, ha, pd⟩ := t0
  have lx : xs.length = ds.length := Paired.length pd
  refine ⟨_, rfl, _, rfl, a, xs, rfl, .inr (SqT.of ha), _, _, rfl, rfl, l, z, _, rfl, hl, ok, by omega, by omega, fun d z' H1 hd ok' hl' bt => ⟨_, _, rfl, rfl, ?_⟩⟩
  have e : (1 : Int) + (d : Int) = ((d + 1 : Nat) : Int) := by omega
  dsimp only
  rw [e]
  exact q _ _ ⟨⟨d + 1, by omega, by omega⟩, o, wy, _, rfl, hw, TupE.but t bt st0 ⟨z', hl', ok'⟩, ⟨z', hl', ok'⟩, b.trans ⟨⟨z', hl', ok'⟩, bt⟩, (lsBut ls bt st0 ⟨z', hl', ok'⟩ (by decide)).1⟩
theorem gsW3 : Wl.Stb (W3 H0 l dv ds at_) := fun σ H H' s ⟨o, wy, x6, e, hw, t, st, b, ls⟩ => ⟨o, wy, x6, e, hw, stbT _ _ _ _ s t, (let ⟨z, h, ok⟩ := st; ⟨z, s _ _ h, ok⟩), b.same s, Wl.stbL stbEv _ _ _ _ s ls⟩
theorem vD3 : ∀ σ H, W3 H0 l dv ds at_ σ H → ∃ v, σ[1]? = some (some v) ∧ TupE H v ds := fun σ H ⟨o, wy, x6, e, hw, t, _⟩ => ⟨dv, by rw [e]; rfl, t⟩
theorem noWBut {H H' : Hp} {v : V} (h : NoW H v ()) (b : But l H H') (hl : StAt H l) (hl' : StAt H' l) : NoW H' v () := by
  obtain ⟨t, h, hb⟩ := h
  refine ⟨t, ?_, hb⟩
  cases t with
  | tup es =>
    obtain ⟨p, xs, e, hp, q, r⟩ := h
    have np : p ≠ l := by
      obtain ⟨st, hl, _⟩ := hl
      exact ne_of hp hl (by intro z; cases z)
    exact ⟨p, xs, e, b _ _ np hp, pdB b hl hl' q, r⟩
  | no =>
    obtain ⟨st, hl, ok⟩ := hl
    obtain ⟨st', hl', ok'⟩ := hl'
    rcases h with h | h | ⟨p, e, ⟨xs, h⟩ | ⟨xs, h⟩⟩ | h | h
    · exact .inl h
    · exact .inr (.inl h)
    · by_cases z : p = l
      · subst z
        exact .inr (.inr (.inl ⟨p, e, .inl ⟨st', hl'⟩⟩))
      · exact .inr (.inr (.inl ⟨p, e, .inl ⟨xs, b _ _ z h⟩⟩))
    · exact .inr (.inr (.inl ⟨p, e, .inr ⟨xs, b _ _ (ne_of h hl (by intro z; cases z)) h⟩⟩))
    · exact .inr (.inr (.inr (.inl h)))
    · exact .inr (.inr (.inr (.inr h)))
theorem hW3 (hlist : mg "list" = none) (On : Cl P w K mg base CX0 2 "_law_one" ["_law_state", "_law_some"] (spOne K)) (hr : Room (j + 2) (XWr P w K mg base f cdv A outer s H0 E).A) : HoI (XWr P w K mg base f cdv A outer s H0 E) (stW 3) (W3 H0 l dv ds at_) (W3 H0 l dv ds at_) (RW H0 l) := by
  have gs : Wl.Stb (W3 H0 l dv ds at_) := gsW3
  refine ⟨_, ps_if (pt_cmpR op_eq (pv 3) pe_int (nomark _)) (pss_one (ps_ret (pe_cl On hr (by omega) (by rfl) pass0 (pa_cons (pv 0) (pa_cons (Wl.pe_l (ws := List.replicate 10 ()) stbW (by decide) (Wl.pa_c gs stbW pe_noN (Wl.pa_c gs stbW pe_noT (Wl.pa_c gs stbW pe_noL (Wl.pa_c gs stbW pe_noS (Wl.pa_c gs stbW pe_noI (Wl.pa_c gs stbW pe_noD (Wl.pa_c gs stbW pe_noS
    (Wl.pa_c gs stbW (Wl.PE.weak (pe_callTy call_list_of (by rfl) hlist (by decide +kernel) (pa_cons (pv 1) pa_nil)) fun σ H Q g => by
      obtain ⟨g, q⟩ := g
      obtain ⟨v, e, p, xs, rfl, hp, _⟩ := vD3 σ H g
      exact ⟨_, e, p, xs, rfl, .inr (SqT.of hp), fun n hn => q _ _ (same_new hn) ⟨.no, .inr (.inr (.inl ⟨n, rfl, .inl ⟨_, upd_same⟩⟩)), rfl⟩⟩)
    (Wl.pa_c gs stbW (pe_noT1 (Wl.pe_n (pv 1) vD3)) (Wl.pa_c gs stbW pe_noB (Wl.pa_n _ _)))))))))))) pa_nil))))) pss_nil, ?_⟩
  rintro D σ H g q r
  have g0 := g
  obtain ⟨o, wy, x6, rfl, hw, t, st, b, ls⟩ := g
  refine ⟨_, rfl, rfl, _, rfl, ite2 (fun c => ?_) (fun c => q _ _ g0)⟩
  refine ⟨_, rfl, g0, fun v H1 s1 ⟨pl, xs, ev, hpl, pd⟩ => ?_⟩
  subst ev
  have lx : xs.length = 10 := Paired.length pd
  have st1 : StAt H1 l := (let ⟨z, h, ok⟩ := st; ⟨z, s1 _ _ h, ok⟩)
  have np : pl ≠ l := by
    obtain ⟨z, h2, ok⟩ := st1
    refine ne_of hpl h2 fun z => ?_
    have z2 := HO.lst.inj z
    rcases ok with ⟨c, rfl⟩ | ⟨x, y, c, rfl⟩
    · rw [z2] at lx
      simp at lx
    · rw [z2] at lx
      simp at lx
  refine ⟨l, pl, xs, rfl, st1, hpl, np, by omega, by omega, fun d x H2 hx b2 => r _ _ ⟨?_, (b.same s1).trans b2⟩⟩
  obtain ⟨u, hu, hn⟩ := pd_at pd hx
  exact noWBut hn b2.but st1 b2.st
end
end K9
set_option Elab.async false
set_option linter.all false
set_option maxRecDepth 100000
set_option maxHeartbeats 8000000
set_option autoImplicit false
/-! _law_wrong, walked: the returns of ways 1 to 3 -/
namespace K9
open PySem PySem.Spec PyProof.Rows L2 Cm Tx Tk
theorem headE_evs : ∀ e ∈ headE, ∀ z, e = .str z → z.length ≤ 100000 := by
  intro e he z hz
  have : ∀ e ∈ headE, (match e with | .str z => decide (z.length ≤ 100000) | _ => true) = true := by decide +kernel
  have := this e he
  rw [hz] at this
  exact of_decide_eq_true this
theorem tv_tup {H : Hp} {a : Addr} {xs : List V} {es : List EV} (ha : H a = some (.tup xs)) (pd : Paired (EvAt H) xs es) (hl : es.length ≤ 900) (hh : ∀ z, es.head? = some (.str z) → z ∈ formsL.map (·.1) ∨ z ∈ noWords) : TvAt H (.ref a) (.tup es) := ⟨a, xs, rfl, ha, pd, hl, hh⟩
theorem cut_front (xs : List V) (n : Nat) (h : n + 1 = xs.length) : cutV xs none (some (-1)) = xs.take n := by
  have e : HT.sIx xs.length xs.length (some (-1)) = n := by
    show (if (-1 : Int) < 0 then ((-1) + (xs.length : Int)).toNat else min (-1 : Int).toNat xs.length) = n
    rw [if_pos (by decide)]
    omega
  unfold cutV
  rw [HT.sIx_none, List.drop_zero, Nat.sub_zero, e]
section
variable {P : Program} {w : World} {K : PySem.W.Frag} {mg : Str → Option Value} {base : Heap} {f : Addr} {cdv : Value} {A : Around} {outer : List Env} {s : Shared} {H0 : Hp} {E : XK} {l : Addr} {dv : V} {j at_ : Nat} {p : Str × List Str} {es : List EV}
theorem ne_st {H : Hp} {l pl : Addr} {xs : List V} (hpl : H pl = some (.lst xs)) (st : StAt H l) (lx : 3 < xs.length) : pl ≠ l := by
  obtain ⟨z, h2, ok⟩ := st
  refine ne_of hpl h2 fun z => ?_
  have z2 := HO.lst.inj z
  rcases ok with ⟨c, rfl⟩ | ⟨x, y, c, rfl⟩
  · rw [z2] at lx
    simp at lx
  · rw [z2] at lx
    simp at lx
theorem hW4 (h : p ∈ formsL) (hf : Paired Fits es p.2) (On : Cl P w K mg base CX0 2 "_law_one" ["_law_state", "_law_some"] (spOne K)) (hr : Room (j + 2) (XWr P w K mg base f cdv A outer s H0 E).A) : HoI (XWr P w K mg base f cdv A outer s H0 E) (stW 4) (W3 H0 l dv (.str p.1 :: es) at_) (W3 H0 l dv (.str p.1 :: es) at_) (RW H0 l) := by
  have gs : Wl.Stb (W3 H0 l dv (.str p.1 :: es) at_) := gsW3
  refine ⟨_, ps_if (pt_cmpR op_eq (pv 3) pe_int (nomark _)) (pss_one (ps_ret (pe_op op_catA (pe_tup (pa_cons (pe_cl On hr (by omega) (by rfl) pass0 (pa_cons (pv 0) (pa_cons (Wl.pe_l (ws := headE) stbEv (by decide) (Wl.pa_c gs stbEv (pe_evS (by decide +kernel)) (Wl.pa_c gs stbEv (pe_evS (by decide +kernel)) (Wl.pa_c gs stbEv (pe_evS (by decide +kernel)) (Wl.pa_c gs stbEv pe_evN (Wl.pa_c gs stbEv pe_evI (Wl.pa_c gs stbEv (pe_evS (by decide +kernel))
    (Wl.pa_c gs stbEv (pe_evT (es := [.str "mount"]) (pe_tupE (by decide) (Wl.pa_c gs stbEv (pe_evS (by decide +kernel)) (Wl.pa_n _ _)))) (Wl.pa_c gs stbEv pe_evL (Wl.pa_n _ _)))))))))) pa_nil))) pa_nil)) (pe_slice sl_tupA (pv 1) (po_some pe_int) po_none)))) pss_nil, ?_⟩
  rintro D σ H g q r
  have g0 := g
  obtain ⟨o, wy, x6, rfl, hw, t, st, b, ls⟩ := g
  refine ⟨_, rfl, rfl, _, rfl, ite2 (fun c => ?_) (fun c => q _ _ g0)⟩
  refine ⟨_, rfl, g0, fun v H1 s1 ⟨pl, xs, ev, hpl, pd⟩ => ?_⟩
  subst ev
  have lx : xs.length = 8 := Paired.length pd
  have st1 : StAt H1 l := (let ⟨z, h, ok⟩ := st; ⟨z, s1 _ _ h, ok⟩)
  have np := ne_st hpl st1 (by omega)
  refine ⟨l, pl, xs, rfl, st1, hpl, np, by omega, by omega, fun d x H2 hx b2 => ⟨(by show 1 ≤ sizeLine; decide), fun pt hpt => ?_⟩⟩
  obtain ⟨u, hu, hn⟩ := pd_at pd hx
  have hn2 := EvAt.but hn b2.but st1 b2.st
  have t2 := TupE.but (stbT _ _ _ _ s1 t) b2.but st1 b2.st
  obtain ⟨a, ys, rfl, ha, pdd⟩ := t2
  have s3 := same_new (o := HO.tup [x]) hpt
  have ha3 := s3 _ _ ha
  obtain ⟨xr, rfl⟩ : ∃ xr, ys = .str p.1 :: xr := by
    cases pdd with
    | @cons y _ yr _ h1 _ => exact ⟨yr, by rw [show y = .str p.1 from h1.1]⟩
  have pdr : Paired (EvAt H2) xr es := by
    cases pdd with
    | cons _ r => exact r
  have lr : xr.length = es.length := Paired.length pdr
  have hp3 := p3 h hf
  have lf := Paired.length hf
  refine ⟨_, rfl, 1, rfl, a, _, rfl, SqT.of ha3, fun z => ?_, fun _ p1 hp1 => ?_⟩
  · have z1 := z.1
    have e : HT.sIx (V.str p.1 :: xr).length 0 (some 1) = 1 := sIx1 _ _
    rw [e] at z1
    cases z1
  rw [cut_tail]
  have s4 := same_new (o := HO.tup xr) hp1
  refine ⟨pt, p1, [x], xr, rfl, rfl, SqT.of (s4 _ _ upd_same), SqT.of upd_same, by rw [lr, lf, List.length_singleton]; exact Nat.le_trans (Nat.add_le_add_left hp3.1 _) (by show 1 + 3 ≤ sizeLine; decide), fun e => absurd e (by simp), fun _ e => ?_, fun _ _ pz hpz => r _ _ ⟨?_, ?_⟩⟩
  · rw [e] at lr
    simp at lr
    omega
  · have s5 := same_new (o := HO.tup ([x] ++ xr)) hpz
    have sA := (s3.trans s4).trans s5
    refine ⟨.tup (u :: es), tv_tup upd_same (.cons (EvAt.same hn2 sA) (pdE sA pdr)) (by rw [List.length_cons, lf]; omega) fun z hz => ?_, goodT_head (List.mem_of_getElem? hu) es⟩
    cases hz
    exact .inr (head_no _ (List.mem_of_getElem? hu) z rfl).2
  · exact (((b.same s1).trans b2).same ((s3.trans s4).trans (same_new hpz)))
theorem hW5 (h : p ∈ formsL) (hf : Paired Fits es p.2) (On : Cl P w K mg base CX0 2 "_law_one" ["_law_state", "_law_some"] (spOne K)) (hr : Room (j + 2) (XWr P w K mg base f cdv A outer s H0 E).A) : HoI (XWr P w K mg base f cdv A outer s H0 E) (stW 5) (W3 H0 l dv (.str p.1 :: es) at_) (W3 H0 l dv (.str p.1 :: es) at_) (RW H0 l) := by
  refine ⟨_, ps_if (pt_cmpR op_eq (pv 3) pe_int (nomark _)) (pss_one (ps_ret (pe_op op_catA (pv 1) (pe_tup (pa_cons (pe_cl On hr (by omega) (by rfl) pass0 (pa_cons (pv 0) (pa_cons (pv 2) pa_nil))) pa_nil))))) pss_nil, ?_⟩
  rintro D σ H g q r
  have g0 := g
  obtain ⟨o, wy, x6, rfl, hw, t, st, b, ls⟩ := g
  refine ⟨_, rfl, rfl, _, rfl, ite2 (fun c => ?_) (fun c => q _ _ g0)⟩
  obtain ⟨pl, xs, rfl, hpl, pd⟩ := ls
  have lx : xs.length = 14 := Paired.length pd
  have np := ne_st hpl st (by omega)
  refine ⟨_, rfl, _, rfl, _, rfl, l, pl, xs, rfl, st, hpl, np, by omega, by omega, fun d x H2 hx b2 => ⟨(by show 1 ≤ sizeLine; decide), fun pt hpt => ?_⟩⟩
  obtain ⟨u, hu, hn⟩ := pd_at pd hx
  have hn2 := EvAt.but hn b2.but st b2.st
  obtain ⟨a, ys, rfl, ha, pdd⟩ := TupE.but t b2.but st b2.st
  have s3 := same_new (o := HO.tup [x]) hpt
  have ha3 := s3 _ _ ha
  have ly : ys.length = es.length + 1 := Paired.length pdd
  have hp3 := p3 h hf
  have lf := Paired.length hf
  refine ⟨a, pt, ys, [x], rfl, rfl, SqT.of ha3, SqT.of upd_same, by rw [ly, lf, List.length_singleton]; exact Nat.le_trans (Nat.add_le_add_right (Nat.add_le_add_right hp3.1 1) 1) (by show 3 + 1 + 1 ≤ sizeLine; decide), fun e => ?_, fun _ e => absurd e (by simp), fun _ _ pz hpz => r _ _ ⟨?_, ?_⟩⟩
  · rw [e] at ly
    cases ly
  · have s5 := same_new (o := HO.tup (ys ++ [x])) hpz
    have sA := s3.trans s5
    refine ⟨.tup (.str p.1 :: (es ++ [u])), tv_tup upd_same (Wl.pd_app (pdE sA pdd) (.cons (EvAt.same hn2 sA) .nil)) (by rw [List.length_cons, List.length_append, lf]; simp; omega) fun z hz => ?_, goodT_len h (by rw [List.length_append, lf]; simp)⟩
    cases hz
    exact .inl (List.mem_map_of_mem h)
  · exact ((b.trans b2).same (s3.trans (same_new hpz)))
theorem hW6 (h : p ∈ formsL) (hf : Paired Fits es p.2) : HoI (XWr P w K mg base f cdv A outer s H0 E) (stW 6) (W3 H0 l dv (.str p.1 :: es) at_) (W3 H0 l dv (.str p.1 :: es) at_) (RW H0 l) := by
  refine ⟨_, ps_if (pt_cmpR op_eq (pv 3) pe_int (nomark _)) (pss_one (ps_ret (pe_slice sl_tupA (pv 1) po_none (po_some (pe_un un_neg pe_int))))) pss_nil, ?_⟩
  rintro D σ H g q r
  have g0 := g
  obtain ⟨o, wy, x6, rfl, hw, t, st, b, ls⟩ := g
  refine ⟨_, rfl, rfl, _, rfl, ite2 (fun c => ?_) (fun c => q _ _ g0)⟩
  obtain ⟨a, ys, rfl, ha, pdd⟩ := t
  have ly : ys.length = es.length + 1 := Paired.length pdd
  have hp3 := p3 h hf
  have lf := Paired.length hf
  have ec : cutV ys none (some (-1)) = ys.take es.length := cut_front ys es.length ly.symm
  refine ⟨_, rfl, 1, rfl, _, rfl, a, ys, rfl, SqT.of ha, fun z => ?_, fun _ pz hpz => r _ _ ⟨?_, b.same (same_new hpz)⟩⟩
  · have z1 := z.2
    have e : HT.sIx ys.length ys.length (some (-1)) = es.length := by
      show (if (-1 : Int) < 0 then ((-1) + (ys.length : Int)).toNat else min (-1 : Int).toNat ys.length) = es.length
      rw [if_pos (by decide)]
      omega
    have z1 : HT.sIx ys.length ys.length (some (-1)) = ys.length := z1
    rw [e] at z1
    omega
  · have s5 := same_new (o := HO.tup (ys.take es.length)) hpz
    have pt : Paired (EvAt H) (ys.take es.length) ((EV.str p.1 :: es).take es.length) := pd_take _ pdd
    obtain ⟨n, hn⟩ : ∃ n, es.length = n + 1 := ⟨es.length - 1, by omega⟩
    have e2 : (EV.str p.1 :: es).take es.length = .str p.1 :: es.take n := by rw [hn]; rfl
    rw [e2] at pt
    have hx : (upd H pz (.tup (cutV ys none (some (-1))))) pz = some (.tup (ys.take es.length)) := by rw [upd_same, ec]
    refine ⟨.tup (.str p.1 :: es.take n), tv_tup hx (pdE (same_new hpz) pt) (by rw [List.length_cons, List.length_take]; omega) fun z hz => ?_, goodT_len h (by rw [List.length_take]; omega)⟩
    cases hz
    exact .inl (List.mem_map_of_mem h)
end
end K9
set_option Elab.async false
set_option linter.all false
set_option maxRecDepth 100000
set_option maxHeartbeats 8000000
set_option autoImplicit false
/-! _law_wrong, walked: one entry otherwise -/
namespace K9
open PySem PySem.Spec PyProof.Rows L2 Cm Tx Tk
/-- the place is not that of a tree -/
def AtOk (p : Str × List Str) (a : Nat) : Prop := 1 ≤ a ∧ a ≤ p.2.length ∧ (p.2[a - 1]? : Option Str) ≠ some "tree"
def W7 (H0 : Hp) (l : Addr) (dv : V) (p : Str × List Str) (ds : List EV) : L2.St → Hp → Prop := fun σ H => ∃ (o : V) (wy a : Nat) (x6 : Option V), σ = [some (.ref l), some dv, some o, some (.int wy), some (.int a), x6] ∧ AtOk p a ∧ TupE H dv ds ∧ StAt H l ∧ Bs H0 l H ∧ Wl.LsAt EvR H o oddE
def W8 (H0 : Hp) (l : Addr) (dv : V) (p : Str × List Str) (ds : List EV) : L2.St → Hp → Prop := fun σ H => ∃ (o : V) (wy a : Nat) (x : V) (u : EV), σ = [some (.ref l), some dv, some o, some (.int wy), some (.int a), some x] ∧ AtOk p a ∧ TupE H dv ds ∧ StAt H l ∧ Bs H0 l H ∧ u ∈ oddE ∧ EvAt H x u
def W9 (H0 : Hp) (l : Addr) (dv : V) (p : Str × List Str) (ds : List EV) : L2.St → Hp → Prop := fun σ H => ∃ (o : V) (wy a : Nat) (x : V) (u : EV) (s : Str), σ = [some (.ref l), some dv, some o, some (.int wy), some (.int a), some x] ∧ AtOk p a ∧ TupE H dv ds ∧ StAt H l ∧ Bs H0 l H ∧ EvAt H x u ∧ (p.2[a - 1]? : Option Str) = some s ∧ fitB u s = false
theorem tree_at : ∀ p ∈ formsL, ∀ i, i < p.2.length → (p.2[i]? : Option Str) = some "tree" → i = 1 ∧ p.1 = "mount" := by
  intro p hp i hi e
  rcases form_tree p hp with ⟨e1, e2⟩ | ⟨_, e2⟩
  · rw [e2] at e
    refine ⟨?_, e1⟩
    match i, e with
    | 0, e => exact absurd (Option.some.inj e) (by decide +kernel)
    | 1, _ => rfl
    | 2, e => exact absurd (Option.some.inj e) (by decide +kernel)
    | i + 3, e => cases e
  · exact absurd rfl (e2 _ (List.mem_of_getElem? e))
theorem mount_form : ∀ p ∈ formsL, p.1 = "mount" → p.2 = (["space", "tree", "path"] : List Str) := by decide +kernel
theorem clone_form : ∀ p ∈ formsL, p.1 = "clone" → p.2 = (["space", "bool"] : List Str) := by decide +kernel
theorem bool_form : ∀ p ∈ formsL, ∀ i, i < p.2.length → (p.2[i]? : Option Str) = some "bool" → i = 1 ∧ p.1 = "clone" := by
  intro p hp i hi e
  have h1 : ∀ p ∈ formsL, p.1 = "clone" ∨ ∀ s ∈ p.2, s ≠ "bool" := by decide +kernel
  rcases h1 p hp with e1 | e2
  · have e2 := clone_form p hp e1
    rw [e2] at e
    refine ⟨?_, e1⟩
    match i, e with
    | 0, e => exact absurd (Option.some.inj e) (by decide +kernel)
    | 1, _ => rfl
    | i + 2, e => cases e
  · exact absurd rfl (e2 _ (List.mem_of_getElem? e))
section
variable {P : Program} {w : World} {K : PySem.W.Frag} {mg : Str → Option Value} {base : Heap} {f : Addr} {cdv : Value} {A : Around} {outer : List Env} {s : Shared} {H0 : Hp} {E : XK} {l : Addr} {dv : V} {j at_ : Nat} {p : Str × List Str} {es : List EV}
theorem hW7 (h : p ∈ formsL) (hf : Paired Fits es p.2) (ha1 : 1 ≤ at_) (ha2 : at_ < es.length + 1) : Ho (XWr P w K mg base f cdv A outer s H0 E) (stW 7) (W3 H0 l dv (.str p.1 :: es) at_) (W7 H0 l dv p (.str p.1 :: es)) := by
  have lf := Paired.length hf
  refine ⟨_, ps_if (PW.pt (pw_and (pt_cmpR op_eq (pv 4) pe_int (nomark _)) (pw_and1 (pt_cmpR op_eq (pe_ix ix_tup (pv 1) pe_int (fun _ _ => rfl)) pe_str (nomark _))))) (pss_one (ps_set (i := 4) scWr.nd rfl (.inl rfl) pe_int)) pss_nil, ?_⟩
  rintro D σ H ⟨o, wy, x6, rfl, hw, t, st, b, ls⟩ q
  have t0 := t
  obtain ⟨a, xs, rfl, ha, pd⟩ := t0
  obtain ⟨x0, hx0, ev0⟩ := pd_get pd (i := 0) (e := .str p.1) rfl
  cases (show x0 = .str p.1 from ev0.1)
  refine ⟨_, rfl, rfl, _, rfl, ?_⟩
  by_cases e2 : at_ = 2
  · subst e2
    refine iteT ⟨_, rfl, a, xs, 0, .str p.1, rfl, rfl, SqT.of ha, atI_nat (j := 0) hx0, rfl, _, rfl, ?_⟩
    by_cases hm : p.1 = "mount"
    · rw [decide_eq_true (show V.str p.1 = V.str "mount" from congrArg V.str hm)]
      have e := mount_form p h hm
      refine iteT (q _ _ ⟨o, wy, 3, x6, rfl, ⟨by decide, by rw [e]; decide, by rw [e]; decide +kernel⟩, t, st, b, ls⟩)
    · rw [decide_eq_false (show ¬ V.str p.1 = V.str "mount" from fun e => hm (V.str.inj e))]
      refine iteF (q _ _ ⟨o, wy, 2, x6, rfl, ⟨by decide, by omega, fun e => hm (tree_at p h 1 (by omega) e).2⟩, t, st, b, ls⟩)
  · rw [decide_eq_false (show ¬ V.int (at_ : Int) = V.int 2 from fun e => e2 (by have := V.int.inj e; omega))]
    refine iteF (iteF (q _ _ ⟨o, wy, at_, x6, rfl, ⟨ha1, by omega, fun e => ?_⟩, t, st, b, ls⟩))
    have := (tree_at p h (at_ - 1) (by omega) e).1
    omega
theorem hW8 (On : Cl P w K mg base CX0 2 "_law_one" ["_law_state", "_law_some"] (spOne K)) (hr : Room (j + 2) (XWr P w K mg base f cdv A outer s H0 E).A) : Ho (XWr P w K mg base f cdv A outer s H0 E) (stW 8) (W7 H0 l dv p (.str p.1 :: es)) (W8 H0 l dv p (.str p.1 :: es)) := by
  refine ⟨_, ps_set (i := 5) scWr.nd rfl (.inl rfl) (pe_cl On hr (by omega) (by rfl) pass0 (pa_cons (pv 0) (pa_cons (pv 2) pa_nil))), ?_⟩
  rintro D σ H ⟨o, wy, a, x6, rfl, ao, t, st, b, ls⟩ q
  obtain ⟨pl, xs, rfl, hpl, pd⟩ := ls
  have lx : xs.length = 14 := Paired.length pd
  have np := ne_st hpl st (by omega)
  refine ⟨_, rfl, _, rfl, l, pl, xs, rfl, st, hpl, np, by omega, by omega, fun d x H2 hx b2 => ?_⟩
  obtain ⟨u, hu, hn⟩ := pd_at pd hx
  exact q _ _ ⟨_, wy, a, x, u, rfl, ao, TupE.but t b2.but st b2.st, b2.st, b.trans b2, List.mem_of_getElem? hu, EvAt.but hn b2.but st b2.st⟩
theorem sort4 {p : Str × List Str} (h : p ∈ formsL) {a : Nat} {s : Str} (ao : AtOk p a) (hs : (p.2[a - 1]? : Option Str) = some s) : s ∈ sorts4 := by
  have h1 := (form_facts p h).2.2.2.2.2.2.2.2.2 s (List.mem_of_getElem? hs)
  have n : s ≠ "tree" := fun e => ao.2.2 (by rw [hs, e]; rfl)
  simp only [sorts, List.mem_cons, List.not_mem_nil, or_false] at h1
  rcases h1 with rfl | rfl | rfl | rfl | rfl
  · decide +kernel
  · exact absurd rfl n
  · decide +kernel
  · decide +kernel
  · decide +kernel
theorem space_at {p : Str × List Str} (h : p ∈ formsL) {i : Nat} (e : (p.2[i]? : Option Str) = some "space") : i = 0 := by
  match i, e with
  | 0, _ => rfl
  | i + 1, e =>
    have hd := (form_facts p h).2.2.2.1
    have : (p.2.drop 1)[i]? = some (Str.ofString "space") := by rw [List.getElem?_drop, Nat.add_comm]; exact e
    exact absurd (List.all_eq_true.mp hd _ (List.mem_of_getElem? this)) (by decide +kernel)
theorem hit_no {u : EV} (h : ([5, 1000] : List Int).any (hitI u) = false) : u ≠ .int 5 ∧ u ≠ .int 1000 := by
  constructor
  · rintro rfl
    exact absurd h (by decide)
  · rintro rfl
    exact absurd h (by decide)
theorem hW9 (h : p ∈ formsL) (hf : Paired Fits es p.2) (hr : Room j (XWr P w K mg base f cdv A outer s H0 E).A) : Ho (XWr P w K mg base f cdv A outer s H0 E) (stW 9) (W8 H0 l dv p (.str p.1 :: es)) (W9 H0 l dv p (.str p.1 :: es)) := by
  have hu : (XWr P w K mg base f cdv A outer s H0 E).A.units + 64 < cLine := hr.units
  refine ⟨_, ps_if (PW.pt (pw_or (PW.pt (pw_and (pt_cmpR op_eq (pv 4) pe_int (nomark _)) (pw_and1 (pt_cmpR (op_inI hu) (pv 5) (pe_tup (pa_cons pe_int (pa_cons pe_int pa_nil))) (by rfl)))))
    (pw_or1 (PW.pt (pw_and (pt_cmpR op_eq (pe_ix ix_tup (pv 1) pe_int (fun _ _ => rfl)) pe_str (nomark _)) (pw_and (pt_cmpR op_eq (pv 4) pe_int (nomark _)) (pw_and1 (pt_cmpR op_isT (pv 5) pe_bl (nomark _))))))))) (pss_one (ps_set (i := 5) scWr.nd rfl (.inl rfl) pe_str)) pss_nil, ?_⟩
  rintro D σ H ⟨o, wy, a, x, u, rfl, ao, t, st, b, hu, hx⟩ q
  obtain ⟨s, hs⟩ : ∃ s, (p.2[a - 1]? : Option Str) = some s := ⟨_, List.getElem?_eq_getElem (by have := ao.1; have := ao.2.1; omega)⟩
  have s4 := sort4 h ao hs
  have keep : ∀ H1, Same H H1 → fitB u s = false → W9 H0 l dv p (.str p.1 :: es) [some (.ref l), some dv, some o, some (.int wy), some (.int a), some x] H1 := fun H1 sm hb => ⟨o, wy, a, x, u, s, rfl, ao, stbT _ _ _ _ sm t, (let ⟨z, h, ok⟩ := st; ⟨z, sm _ _ h, ok⟩), b.same sm, EvAt.same hx sm, hs, hb⟩
  have putx : ∀ H1, Same H H1 → W9 H0 l dv p (.str p.1 :: es) [some (.ref l), some dv, some o, some (.int wy), some (.int a), some (.str "x")] H1 := fun H1 sm => ⟨o, wy, a, .str "x", .str "x", s, rfl, ao, stbT _ _ _ _ sm t, (let ⟨z, h, ok⟩ := st; ⟨z, sm _ _ h, ok⟩), b.same sm, ⟨rfl, by decide +kernel⟩, hs, x_fit s s4⟩
  obtain ⟨d, ys, rfl, hd, pdd⟩ := id t
  obtain ⟨x0, hx0, ev0⟩ := pd_get pdd (i := 0) (e := .str p.1) rfl
  cases (show x0 = .str p.1 from ev0.1)
  have a0 : atI ys 0 = some (.str p.1) := atI_nat (j := 0) hx0
  refine ⟨_, rfl, rfl, _, rfl, ?_⟩
  by_cases e1 : a = 1
  · subst e1
    have es1 : s = "space" := by
      have : p.2[0]? = some s := hs
      rw [(form_facts p h).2.2.1] at this
      exact (Option.some.inj this).symm
    refine iteT ⟨_, rfl, (by show 2 ≤ sizeLine; decide), fun pt hpt => ?_⟩
    have sm := same_new (o := HO.tup [V.int 5, .int 1000]) hpt
    refine ⟨pt, [5, 1000], u, rfl, SqT.of upd_same, EvAt.same hx sm, _, rfl, ?_⟩
    by_cases hh : ([5, 1000] : List Int).any (hitI u) = true
    · rw [hh]
      exact iteT (iteT (q _ _ (putx _ sm)))
    · have hh' : ([5, 1000] : List Int).any (hitI u) = false := by simpa using hh
      rw [hh']
      have kf : fitB u s = false := odd_fit u hu s s4 (fun _ => hit_no hh') (fun e => absurd (es1.symm.trans e) (by decide +kernel))
      refine iteF ⟨_, rfl, d, ys, 0, .str p.1, rfl, rfl, SqT.of (sm _ _ hd), a0, rfl, _, rfl, ite2 (fun _ => ?_) (fun _ => ?_)⟩
      · exact ⟨_, rfl, rfl, _, rfl, iteF (iteF (q _ _ (keep _ sm kf)))⟩
      · exact iteF (q _ _ (keep _ sm kf))
  · rw [decide_eq_false (show ¬ V.int (a : Int) = V.int 1 from fun e => e1 (by have := V.int.inj e; omega))]
    have ns : s ≠ "space" := fun e => by
      have := space_at h (i := a - 1) (by rw [hs, e]; rfl)
      have := ao.1
      omega
    refine iteF (iteF ⟨_, rfl, d, ys, 0, .str p.1, rfl, rfl, SqT.of hd, a0, rfl, _, rfl, ?_⟩)
    by_cases hc : p.1 = "clone"
    · rw [decide_eq_true (show V.str p.1 = V.str "clone" from congrArg V.str hc)]
      have e := clone_form p h hc
      have ha2 : a = 2 := by
        have h1 := ao.1
        have h2 := ao.2.1
        rw [e] at h2
        have h2 : a ≤ 2 := h2
        omega
      subst ha2
      refine iteT ⟨_, rfl, rfl, _, rfl, iteT ⟨_, rfl, u, rfl, hx, _, rfl, ?_⟩⟩
      by_cases ht : isTrueE u = true
      · rw [ht]
        exact iteT (q _ _ (putx _ (Same.refl H)))
      · have ht' : isTrueE u = false := by simpa using ht
        rw [ht']
        exact iteF (q _ _ (keep _ (Same.refl H) (odd_fit u hu s s4 (fun e => absurd e ns) fun _ e => by rw [e] at ht'; cases ht')))
    · rw [decide_eq_false (show ¬ V.str p.1 = V.str "clone" from fun e => hc (V.str.inj e))]
      exact iteF (q _ _ (keep _ (Same.refl H) (odd_fit u hu s s4 (fun e => absurd e ns) fun e => absurd (bool_form p h (a - 1) (by have := ao.1; have := ao.2.1; omega) (by rw [hs, e]; rfl)).2 hc)))
end
end K9
set_option Elab.async false
set_option linter.all false
set_option maxRecDepth 100000
set_option maxHeartbeats 8000000
set_option autoImplicit false
/-! _law_wrong, whole -/
namespace K9
open PySem PySem.Spec PyProof.Rows L2 Cm Tx Tk
theorem cut_to {xs : List V} {a : Nat} (h : a < xs.length) : cutV xs none (some (a : Int)) = xs.take a ∧ ¬ (HT.sIx xs.length 0 none = 0 ∧ HT.sIx xs.length xs.length (some (a : Int)) = xs.length) := by
  have e : HT.sIx xs.length xs.length (some (a : Int)) = a := (HT.sIx_nat _ _ _).trans (by omega)
  constructor
  · unfold cutV
    rw [HT.sIx_none, List.drop_zero, Nat.sub_zero, e]
  · rw [e]
    rintro ⟨_, z⟩
    omega
theorem cut_from {xs : List V} {a : Nat} (h : a ≤ xs.length) (h0 : 0 < a) : cutV xs (some (a : Int)) none = xs.drop a ∧ ¬ (HT.sIx xs.length 0 (some (a : Int)) = 0 ∧ HT.sIx xs.length xs.length none = xs.length) := by
  have e : HT.sIx xs.length 0 (some (a : Int)) = a := (HT.sIx_nat _ _ _).trans (by omega)
  constructor
  · unfold cutV
    rw [e, HT.sIx_none]
    exact List.take_of_length_le (by rw [List.length_drop]; exact Nat.le_refl _)
  · rw [e]
    rintro ⟨z, _⟩
    omega
section
variable {P : Program} {w : World} {K : PySem.W.Frag} {mg : Str → Option Value} {base : Heap} {f : Addr} {cdv : Value} {A : Around} {outer : List Env} {s : Shared} {H0 : Hp} {E : XK} {l : Addr} {dv : V} {j at_ : Nat} {p : Str × List Str} {es : List EV}
theorem hW10 (h : p ∈ formsL) (hf : Paired Fits es p.2) : HoR (XWr P w K mg base f cdv A outer s H0 E) [stW 10] (W9 H0 l dv p (.str p.1 :: es)) (RW H0 l) := by
  refine ⟨_, pss_one (ps_ret (pe_op op_catA (pe_op op_catA (pe_slice sl_tupA (pv 1) po_none (po_some (pv 4))) (pe_tup (pa_cons (pv 5) pa_nil))) (pe_slice sl_tupA (pv 1) (po_some (pe_op op_add (pv 4) pe_int)) po_none))), ?_⟩
  rintro D σ H ⟨o, wy, a, x, u, so, rfl, ao, t, st, b, hx, hs, hb⟩ r
  obtain ⟨d, ys, rfl, hd, pdd⟩ := t
  have ly : ys.length = es.length + 1 := Paired.length pdd
  have lf := Paired.length hf
  have hp3 := p3 h hf
  obtain ⟨k, rfl⟩ : ∃ k, a = k + 1 := ⟨a - 1, by have := ao.1; omega⟩
  have hk : k < es.length := by
    have := ao.2.1
    omega
  have c1 := cut_to (xs := ys) (a := k + 1) (by omega)
  have c2 := cut_from (xs := ys) (a := k + 2) (by omega) (by omega)
  refine ⟨_, rfl, _, rfl, _, rfl, d, ys, rfl, SqT.of hd, fun z => absurd z c1.2, fun _ p1 hp1 => ?_⟩
  rw [c1.1]
  have s1 := same_new (o := HO.tup (ys.take (k + 1))) hp1
  refine ⟨_, rfl, (by show 1 ≤ sizeLine; decide), fun pt hpt => ?_⟩
  have s2 := same_new (o := HO.tup [x]) hpt
  have lt : (ys.take (k + 1)).length = k + 1 := by rw [List.length_take]; omega
  refine ⟨p1, pt, ys.take (k + 1), [x], rfl, rfl, SqT.of (s2 _ _ upd_same), SqT.of upd_same, by rw [lt, List.length_singleton]; exact Nat.le_trans (show k + 1 + 1 ≤ 5 by omega) (by decide), fun e => ?_, fun _ e => absurd e (by simp), fun _ _ pc hpc => ?_⟩
  · rw [e] at lt
    cases lt
  have s3 := same_new (o := HO.tup (ys.take (k + 1) ++ [x])) hpc
  have s123 := (s1.trans s2).trans s3
  have hd3 := s123 _ _ hd
  have gc : (upd (upd (upd H p1 (.tup (ys.take (k + 1)))) pt (.tup [x])) pc (.tup (ys.take (k + 1) ++ [x]))) pc = some (.tup (ys.take (k + 1) ++ [x])) := upd_same
  generalize upd (upd (upd H p1 (.tup (ys.take (k + 1)))) pt (.tup [x])) pc (.tup (ys.take (k + 1) ++ [x])) = H3 at s123 hd3 gc ⊢
  have e2 : ((k + 1 : Nat) : Int) + 1 = ((k + 2 : Nat) : Int) := by omega
  refine ⟨_, rfl, _, rfl, _, _, rfl, rfl, ((k + 1 : Nat) : Int) + 1, rfl, d, ys, rfl, SqT.of hd3, ?_⟩
  rw [e2]
  refine ⟨fun z => absurd z c2.2, fun _ p2 hp2 => ?_⟩
  rw [c2.1]
  have s4 := same_new (o := HO.tup (ys.drop (k + 2))) hp2
  have hpd : ∀ {H4 : Hp}, Same H H4 → Paired (EvAt H4) ((ys.take (k + 1) ++ [x]) ++ ys.drop (k + 2)) (.str p.1 :: ((es.take k ++ [u]) ++ es.drop (k + 1))) := fun {H4} sm => by
    have := Wl.pd_app (Wl.pd_app (pd_take (k + 1) (pdE sm pdd)) (.cons (EvAt.same hx sm) .nil)) (pd_drop (k + 2) (pdE sm pdd))
    exact this
  have hg : goodT (.tup (.str p.1 :: ((es.take k ++ [u]) ++ es.drop (k + 1)))) = false := by
    have lk : (es.take k).length = k := by rw [List.length_take]; omega
    refine goodT_put h (j := k) (e := u) (s := so) ?_ hs hb
    rw [List.getElem?_append_left (by rw [List.length_append, lk, List.length_singleton]; omega), List.getElem?_append_right (by omega), lk, Nat.sub_self]
    rfl
  have hn : ∀ {H4 : Hp} {pz : Addr}, Same H H4 → H4 pz = some (.tup ((ys.take (k + 1) ++ [x]) ++ ys.drop (k + 2))) → NoW H4 (.ref pz) () := fun {H4 pz} sm hz => by
    refine ⟨_, tv_tup hz (hpd sm) ?_ fun z hz => ?_, hg⟩
    · rw [List.length_cons, List.length_append, List.length_append, List.length_take, List.length_drop, List.length_singleton]
      omega
    · cases hz
      exact .inl (List.mem_map_of_mem h)
  refine ⟨pc, p2, _, ys.drop (k + 2), rfl, rfl, SqT.of (s4 _ _ gc), SqT.of upd_same, ?_, fun e => ?_, fun _ e => ?_, fun _ _ pz hpz => ?_⟩
  · rw [List.length_append, lt, List.length_singleton, List.length_drop]
    exact Nat.le_trans (show _ ≤ 20 by omega) (by decide)
  · exact absurd e (by simp)
  · refine r _ _ ⟨hn (s123.trans s4) ?_, b.same (s123.trans s4)⟩
    have gc4 := s4 _ _ gc
    rw [e] at gc4 ⊢
    rw [List.append_nil]
    exact gc4
  · exact r _ _ ⟨hn ((s123.trans s4).trans (same_new hpz)) upd_same, b.same ((s123.trans s4).trans (same_new hpz))⟩
end
theorem HoR.exK {X : Cx} {sts : List Stmt} {ι : Type} {p : ι → L2.St → Hp → Prop} {r : VK} (h : ∀ i, HoR X sts (p i) r) : HoR X sts (fun σ H => ∃ i, p i σ H) r :=
  ⟨fun D σ H => ∃ i, Classical.choose (h i) D σ H, ⟨fun pins s σ H D I ⟨i, z⟩ => (Classical.choose_spec (h i)).1.run pins s σ H D I z⟩, fun D σ H ⟨i, z⟩ q => ⟨i, (Classical.choose_spec (h i)).2 D σ H z q⟩⟩
section
variable {P : Program} {w : World} {K : PySem.W.Frag} {mg : Str → Option Value} {base : Heap}
def spWrong : Sp := fun vs H Q _ => ∃ l dv p es, vs = [.ref l, dv] ∧ StAt H l ∧ p ∈ formsL ∧ Paired Fits es p.2 ∧ DdAt H dv p.1 es ∧ ∀ v H', NoW H' v () → Bs H l H' → Q v H'
theorem ok_wrong {f : Addr} {fd : FuncData} {k : Nat} (F : Fun K "_law_wrong" "_law_wrong" sWrong f fd) (B : Bi mg) (hlist : mg "list" = none) (Dg : Cl P w K mg base CX0 1 "_law_digit" ["_law_state", "_law_base"] spDigit) (On : Cl P w K mg base CX0 2 "_law_one" ["_law_state", "_law_some"] (spOne K)) : FnOk P w K mg base CX0 (k + 3) f fd ["_law_state", "_law_deed_here"] spWrong := by
  refine F.ok scWr (fun vs H Q E h => ?_) (fun cdv A outer s H vs Q E hr h => ?_)
  · obtain ⟨l, dv, p, es, rfl, _⟩ := h
    rfl
  · obtain ⟨l, dv, p, es, rfl, st, hp, hf, ⟨a, rfl, ha⟩, q⟩ := h
    have hr2 : Room (k + 2) (XWr P w K mg base f cdv A outer s H E).A := hr
    have hr1 : Room (k + 1) (XWr P w K mg base f cdv A outer s H E).A := hr.mono (by omega)
    have hr0 : Room k (XWr P w K mg base f cdv A outer s H E).A := hr.mono (by omega)
    have lf := Paired.length hf
    have hp3 := p3 hp hf
    have te : TupE H (.ref a) (.str p.1 :: es) := by
      refine ⟨a, _, rfl, ha, paired_ev fun e he u hu => ?_⟩
      cases he with
      | head =>
        cases hu
        exact (forms_name hp).1
      | tail _ h' =>
        subst hu
        obtain ⟨i, hi⟩ := List.mem_iff_getElem?.mp h'
        have hlt : i < p.2.length := by
          have := (List.getElem?_eq_some_iff.mp hi).1
          omega
        have := (fits_ok (pd_fit hf hi (List.getElem?_eq_getElem hlt))).len
        exact Nat.le_trans this (by decide)
    rw [bodyWr]
    obtain ⟨t, ht, hq⟩ := HoR.cons (hW0 (P := P) (w := w) (K := K) (mg := mg) (base := base) (f := f) (cdv := cdv) (A := A) (outer := outer) (s := s) (H0 := H) (E := E) (l := l) (dv := .ref a) (ds := .str p.1 :: es)) (HoR.cons (hW1 Dg hr1) (HoR.cons (hW2 B Dg hr1 (by rw [List.length_cons]; omega) (by rw [List.length_cons]; omega)) (HoR.exK fun at_ =>
      HoI.cons (hW3 hlist On hr2) (HoI.cons (hW4 hp hf On hr2) (HoI.cons (hW5 hp hf On hr2) (HoI.cons (hW6 hp hf) (HoR.cons (hW7 hp hf at_.2.1 (show at_.1 < es.length + 1 from at_.2.2)) (HoR.cons (hW8 On hr2) (HoR.cons (hW9 hp hf hr0) (hW10 hp hf))))))))))
    exact ⟨t, ht, hq _ _ _ ⟨rfl, te, st, st, But.refl _ _⟩ fun v H' z => q v H' z.1 z.2⟩
end
end K9
set_option Elab.async false
set_option linter.all false
set_option maxRecDepth 100000
set_option maxHeartbeats 8000000
set_option autoImplicit false
/-! _law_spoilt -/
namespace K9
open PySem PySem.Spec PyProof.Rows L2 Cm Tx Tk
abbrev nSp : List Str := ["_law_state", "_law_text_here", "_law_words", "_law_at", "_law_odd", "_law_way"]
theorem scSp : FnScope nSp ["_law_state", "_law_text_here"] (defScope sSpoilt) := ⟨rfl, rfl, rfl, by decide +kernel, rfl, by decide +kernel, by decide +kernel⟩
def stS (i : Nat) : Stmt := (defBody sSpoilt).getD i (.Pass ⟨0, 0, 0, 0⟩)
theorem bodySp : defBody sSpoilt = [stS 0, stS 1, stS 2, stS 3, stS 4, stS 5, stS 6, stS 7, stS 8] := rfl
abbrev XSp (P : Program) (w : World) (K : PySem.W.Frag) (mg : Str → Option Value) (base : Heap) (f : Addr) (cdv : Value) (A : Around) (outer : List Env) (s : Shared) (H0 : Hp) (E : XK) : Cx := (cxOf CX0 P w K mg base nSp "_law_spoilt" (defScope sSpoilt) f cdv A outer s H0 E).nox
def odd13 : List Str := oddW ++ [big7]
theorem op_mulS {X : Cx} : OpR X (binaryOp .Mult) (fun x y H Q => ∃ a n, x = .str a ∧ y = .int n ∧ MulOk a n ∧ Q (.str (Txt.mul a n)) H) := by
  intro pins s σ H x y v u Q I rx ry h
  obtain ⟨a, n, rfl, rfl, ok, q⟩ := h
  obtain ⟨t, rfl⟩ := rx
  obtain ⟨t', rfl⟩ := ry
  exact SB.mul ok fun t2 tk => ⟨.str (Txt.mul a n), H, I.tok _, ⟨_, rfl⟩, q⟩
/-- the state: words, place, odd words, way -/
def S4 (H0 : Hp) (l : Addr) (t : Str) (ws : List Str) : L2.St → Hp → Prop := fun σ H => ∃ (wl ol : Addr) (a wy : Nat), σ = [some (.ref l), some (.str t), some (.ref wl), some (.int a), some (.ref ol), some (.int wy)] ∧ a < ws.length ∧ wy < 5 ∧ H wl = some (.lst (ws.map V.str)) ∧ wl ≠ l ∧ H ol = some (.lst (odd13.map V.str)) ∧ ol ≠ l ∧ Bs H0 l H
section
variable {P : Program} {w : World} {K : PySem.W.Frag} {mg : Str → Option Value} {base : Heap} {f : Addr} {cdv : Value} {A : Around} {outer : List Env} {s : Shared} {H0 : Hp} {E : XK} {l : Addr} {j : Nat} {p : Str × List Str} {es : List EV} {t : Str} {ws : List Str}
def S0 (H0 : Hp) (l : Addr) (t : Str) : L2.St → Hp → Prop := fun σ H => σ = [some (.ref l), some (.str t), none, none, none, none] ∧ Bs H0 l H
theorem hSs (B : Bi mg) (Dg : Cl P w K mg base CX0 1 "_law_digit" ["_law_state", "_law_base"] spDigit) (hr : Room (j + 1) (XSp P w K mg base f cdv A outer s H0 E).A) (ht : t.length ≤ 90000) (hw : Txt.split t " " = ws) (hn : 0 < ws.length) (hm : ws.length ≤ 9) :
    ∀ {rest : List Stmt} {v : TS}, PSs (XSp P w K mg base f cdv A outer s H0 E) rest v → ∃ u, PSs (XSp P w K mg base f cdv A outer s H0 E) (stS 0 :: stS 1 :: stS 2 :: stS 3 :: rest) u ∧ ∀ (D : Ends) σ H, S0 H0 l t σ H → (∀ σ' H', S4 H0 l t ws σ' H' → v D σ' H') → u D σ H := by
  intro rest v hv
  refine ⟨_, pss_cons (ps_set (i := 2) scSp.nd rfl (.inl rfl) (pe_split (pv 1) pe_str))
    (pss_cons (ps_set (i := 3) scSp.nd rfl (.inl rfl) (pe_cl Dg hr (by omega) (by rfl) pass0 (pa_cons (pv 0) (pa_cons (pe_callB call_len_seq (by rfl) B.len PySem.boot_len (pa_cons (pv 2) pa_nil)) pa_nil))))
    (pss_cons (ps_set (i := 4) scSp.nd rfl (.inl rfl) (pe_lst (pa_cons pe_str (pa_cons pe_str (pa_cons pe_str (pa_cons pe_str (pa_cons pe_str (pa_cons pe_str (pa_cons pe_str (pa_cons pe_str (pa_cons pe_str (pa_cons pe_str (pa_cons pe_str (pa_cons (pe_op op_mulS pe_str pe_int) (pa_cons (pe_op op_mulS pe_str pe_int) pa_nil)))))))))))))))
    (pss_cons (ps_set (i := 5) scSp.nd rfl (.inl rfl) (pe_cl Dg hr (by omega) (by rfl) pass0 (pa_cons (pv 0) (pa_cons pe_int pa_nil)))) hv))), ?_⟩
  rintro D σ H ⟨rfl, b⟩ q
  obtain ⟨z, hl, ok⟩ := b.st
  refine ⟨_, rfl, ⟨_, rfl⟩, _, _, rfl, rfl, rfl, Nat.le_trans (Nat.add_le_add_right ht 2) (by decide), fun wl hwl => ?_⟩
  rw [hw]
  have nwl : wl ≠ l := (ne_of_none hl hwl).symm
  have s1 := same_new (o := HO.lst (ws.map V.str)) hwl
  refine ⟨_, rfl, _, rfl, wl, _, rfl, .inl (SqL.of upd_same), l, z, _, rfl, s1 _ _ hl, ok, by rw [List.length_map]; omega, by rw [List.length_map]; omega, fun d z1 H1 hd ok1 hl1 bt1 => ?_⟩
  have b1 : Bs H0 l H1 := (b.same s1).trans ⟨⟨z1, hl1, ok1⟩, bt1⟩
  have w1 : H1 wl = some (.lst (ws.map V.str)) := bt1 _ _ nwl upd_same
  have m1 : MulOk "1" 61 := mulOk_of 1 61 (by decide +kernel) (by decide) (by decide) (by decide) (by decide)
  have m7 : MulOk "7" 5000 := mulOk_of 1 5000 (by decide +kernel) (by decide) (by decide) (by decide) (by decide)
  refine ⟨_, _, rfl, rfl, m1, _, _, rfl, rfl, m7, (by show 13 ≤ sizeLine; decide), fun ol hol => ?_⟩
  have nol : ol ≠ l := (ne_of_none hl1 hol).symm
  have s2 := same_new (o := HO.lst (odd13.map V.str)) hol
  rw [List.length_map] at hd
  refine ⟨_, rfl, l, z1, _, rfl, s2 _ _ hl1, ok1, by decide, by decide, fun d2 z2 H2 hd2 ok2 hl2 bt2 => ?_⟩
  exact q _ _ ⟨wl, ol, d, d2, rfl, by omega, by omega, bt2 _ _ nwl (s2 _ _ w1), nwl, bt2 _ _ nol upd_same, nol, (b1.same s2).trans ⟨⟨z2, hl2, ok2⟩, bt2⟩⟩
end
end K9
set_option Elab.async false
set_option linter.all false
set_option maxRecDepth 100000
set_option maxHeartbeats 8000000
set_option autoImplicit false
/-! _law_spoilt: the returns -/
namespace K9
open PySem PySem.Spec PyProof.Rows L2 Cm Tx Tk
def RS (H0 : Hp) (l : Addr) : VK := fun v H' => ∃ z, v = .str z ∧ Bad9 z ∧ Bs H0 l H'
theorem cutL_to {xs : List V} {a : Nat} (h : a < xs.length) : cutV xs none (some (a : Int)) = xs.take a := (cut_to h).1
theorem cutL_from {xs : List V} {a : Nat} (h : a ≤ xs.length) (h0 : 0 < a) : cutV xs (some (a : Int)) none = xs.drop a := (cut_from h h0).1
theorem room9 {us : List Str} (hl : us.length ≤ 12) (h : ∀ w ∈ us, w.length ≤ 100000) : (us.map (·.length)).sum + us.length * (Str.ofString " ").length ≤ 16777216 := by
  have h1 := sum_le (·.length) 100000 us h
  have h3 : (Str.ofString " ").length = 1 := rfl
  rw [h3]
  omega
section
variable {P : Program} {w : World} {K : PySem.W.Frag} {mg : Str → Option Value} {base : Heap} {f : Addr} {cdv : Value} {A : Around} {outer : List Env} {s : Shared} {H0 : Hp} {E : XK} {l : Addr} {j : Nat} {p : Str × List Str} {es : List EV}
theorem hS4 (h : p ∈ formsL) (hf : Paired Fits es p.2) : HoI (XSp P w K mg base f cdv A outer s H0 E) (stS 4) (S4 H0 l (Txt.join " " (wordsOf9 p.1 es)) (wordsOf9 p.1 es)) (S4 H0 l (Txt.join " " (wordsOf9 p.1 es)) (wordsOf9 p.1 es)) (RS H0 l) := by
  refine ⟨_, ps_if (pt_cmpR op_eq (pv 5) pe_int (nomark _)) (pss_one (ps_ret (pe_join pe_str (pe_op op_cat (pe_slice sl_list (pv 2) po_none (po_some (pv 3))) (pe_slice sl_list (pv 2) (po_some (pe_op op_add (pv 3) pe_int)) po_none))))) pss_nil, ?_⟩
  rintro D σ H g q r
  have g0 := g
  obtain ⟨wl, ol, a, wy, rfl, ha, hw, h1, n1, h2, n2, b⟩ := g
  have hl := ws_len h hf
  have hp3 := p3 h hf
  refine ⟨_, rfl, rfl, _, rfl, ite2 (fun c => ?_) (fun c => q _ _ g0)⟩
  refine ⟨⟨_, rfl⟩, _, rfl, _, rfl, _, rfl, wl, _, rfl, SqL.of h1, fun p1 hp1 => ?_⟩
  rw [cutL_to (by rw [List.length_map]; exact ha)]
  have s1 := same_new (o := HO.lst (((wordsOf9 p.1 es).map V.str).take a)) hp1
  have e2 : (a : Int) + 1 = ((a + 1 : Nat) : Int) := by omega
  refine ⟨_, rfl, _, rfl, _, _, rfl, rfl, (a : Int) + 1, rfl, wl, _, rfl, SqL.of (s1 _ _ h1), ?_⟩
  rw [e2]
  refine fun p2 hp2 => ?_
  rw [cutL_from (by rw [List.length_map]; omega) (by omega)]
  have s2 := same_new (o := HO.lst (((wordsOf9 p.1 es).map V.str).drop (a + 1))) hp2
  have hlen : ((wordsOf9 p.1 es).take a ++ (wordsOf9 p.1 es).drop (a + 1)).length ≤ 12 := by
    rw [List.length_append, List.length_take, List.length_drop]
    omega
  have hus : ∀ w ∈ (wordsOf9 p.1 es).take a ++ (wordsOf9 p.1 es).drop (a + 1), w.length ≤ 100000 := fun w hw => by
    rcases List.mem_append.mp hw with hw | hw
    · exact Nat.le_trans (ws_w h hf w (List.mem_of_mem_take hw)).2 (by decide)
    · exact Nat.le_trans (ws_w h hf w (List.mem_of_mem_drop hw)).2 (by decide)
  refine ⟨p1, p2, _, _, rfl, rfl, s2 _ _ upd_same, upd_same, ?_, fun pz hpz => ?_⟩
  · rw [List.length_take, List.length_drop, List.length_map]
    exact Nat.le_trans (show _ ≤ 20 by omega) (by decide)
  · refine ⟨" ", pz, (wordsOf9 p.1 es).take a ++ (wordsOf9 p.1 es).drop (a + 1), rfl, rfl, .inl (SqL.of ?_), room9 hlen hus, r _ _ ⟨_, rfl, sp_less h hf (by rw [← hl]; exact ha), b.same ((s1.trans s2).trans (same_new hpz))⟩⟩
    rw [upd_same, List.map_append, List.map_take, List.map_drop]
theorem hS5 (h : p ∈ formsL) (hf : Paired Fits es p.2) (On : Cl P w K mg base CX0 2 "_law_one" ["_law_state", "_law_some"] (spOne K)) (hr : Room (j + 2) (XSp P w K mg base f cdv A outer s H0 E).A) : HoI (XSp P w K mg base f cdv A outer s H0 E) (stS 5) (S4 H0 l (Txt.join " " (wordsOf9 p.1 es)) (wordsOf9 p.1 es)) (S4 H0 l (Txt.join " " (wordsOf9 p.1 es)) (wordsOf9 p.1 es)) (RS H0 l) := by
  refine ⟨_, ps_if (pt_cmpR op_eq (pv 5) pe_int (nomark _)) (pss_one (ps_ret (pe_join pe_str (pe_op op_cat (pv 2) (pe_lst (pa_cons (pe_cl On hr (by omega) (by rfl) pass0 (pa_cons (pv 0) (pa_cons (pe_lst (pa_cons pe_str (pa_cons pe_str (pa_cons pe_str (pa_cons pe_str pa_nil))))) pa_nil))) pa_nil)))))) pss_nil, ?_⟩
  rintro D σ H g q r
  have g0 := g
  obtain ⟨wl, ol, a, wy, rfl, ha, hw, h1, n1, h2, n2, b⟩ := g
  have hl := ws_len h hf
  have hp3 := p3 h hf
  refine ⟨_, rfl, rfl, _, rfl, ite2 (fun c => ?_) (fun c => q _ _ g0)⟩
  refine ⟨⟨_, rfl⟩, _, rfl, _, rfl, (by show 4 ≤ sizeLine; decide), fun pn hpn => ?_⟩
  have s1 := same_new (o := HO.lst (([("x" : Str), "", "0", "/a"]).map V.str)) hpn
  have b1 := b.same s1
  have hg : (upd H pn (.lst (([("x" : Str), "", "0", "/a"]).map V.str))) pn = some (.lst (([("x" : Str), "", "0", "/a"]).map V.str)) := upd_same
  refine ⟨l, pn, _, rfl, b1.st, hg, ne_st hg b1.st (by decide), by decide, by decide, fun d x H2 hx b2 => ?_⟩
  obtain ⟨z, _, hz, rfl⟩ := strAt (ns := [("x" : Str), "", "0", "/a"]) hx
  refine ⟨(by show 1 ≤ sizeLine; decide), fun pt hpt => ?_⟩
  have s3 := same_new (o := HO.lst [V.str z]) hpt
  have hw2 : H2 wl = some (.lst ((wordsOf9 p.1 es).map V.str)) := b2.but _ _ n1 (s1 _ _ h1)
  have hz1 : z.length ≤ 100000 := by
    have : ∀ z ∈ [("x" : Str), "", "0", "/a"], z.length ≤ 100000 := by decide +kernel
    exact this z hz
  refine ⟨wl, pt, _, _, rfl, rfl, s3 _ _ hw2, upd_same, ?_, fun pz hpz => ?_⟩
  · rw [List.length_map, hl, List.length_singleton]
    exact Nat.le_trans (show _ ≤ 20 by omega) (by decide)
  · refine ⟨" ", pz, wordsOf9 p.1 es ++ [z], rfl, rfl, .inl (SqL.of ?_), room9 ?_ ?_, r _ _ ⟨_, rfl, sp_more h hf z hz, (b1.trans b2).same (s3.trans (same_new hpz))⟩⟩
    · rw [upd_same, List.map_append]
      rfl
    · rw [List.length_append, hl, List.length_singleton]
      omega
    · intro w hw
      rcases List.mem_append.mp hw with hw | hw
      · exact Nat.le_trans (ws_w h hf w hw).2 (by decide)
      · rw [List.mem_singleton.mp hw]
        exact hz1
end
end K9
set_option Elab.async false
set_option linter.all false
set_option maxRecDepth 100000
set_option maxHeartbeats 8000000
set_option autoImplicit false
/-! _law_spoilt: one word otherwise -/
namespace K9
open PySem PySem.Spec PyProof.Rows L2 Cm Tx Tk
section
variable {P : Program} {w : World} {K : PySem.W.Frag} {mg : Str → Option Value} {base : Heap} {f : Addr} {cdv : Value} {A : Around} {outer : List Env} {s : Shared} {H0 : Hp} {E : XK} {l : Addr} {j : Nat} {p : Str × List Str} {es : List EV}
theorem hS8 (h : p ∈ formsL) (hf : Paired Fits es p.2) (Dg : Cl P w K mg base CX0 1 "_law_digit" ["_law_state", "_law_base"] spDigit) (hr : Room (j + 1) (XSp P w K mg base f cdv A outer s H0 E).A) : HoR (XSp P w K mg base f cdv A outer s H0 E) [stS 8] (S4 H0 l (Txt.join " " (wordsOf9 p.1 es)) (wordsOf9 p.1 es)) (RS H0 l) := by
  refine ⟨_, pss_one (ps_ret (pe_join pe_str (pe_op op_cat (pe_op op_cat (pe_slice sl_list (pv 2) po_none (po_some (pv 3))) (pe_lst (pa_cons (pe_ix ix_list (pv 4) (pe_cl Dg hr (by omega) (by rfl) pass0 (pa_cons (pv 0) (pa_cons pe_int pa_nil))) (fun _ _ => rfl)) pa_nil))) (pe_slice sl_list (pv 2) (po_some (pe_op op_add (pv 3) pe_int)) po_none)))), ?_⟩
  rintro D σ H ⟨wl, ol, a, wy, rfl, ha, hw, h1, n1, h2, n2, b⟩ r
  have hl := ws_len h hf
  have hp3 := p3 h hf
  refine ⟨⟨_, rfl⟩, _, rfl, _, rfl, _, rfl, wl, _, rfl, SqL.of h1, fun p1 hp1 => ?_⟩
  rw [cutL_to (by rw [List.length_map]; exact ha)]
  have s1 := same_new (o := HO.lst (((wordsOf9 p.1 es).map V.str).take a)) hp1
  have b1 := b.same s1
  obtain ⟨z1, hl1, ok1⟩ := b1.st
  have np1 : p1 ≠ l := by
    obtain ⟨z0, hl0, _⟩ := b.st
    exact (ne_of_none hl0 hp1).symm
  refine ⟨_, rfl, _, rfl, l, z1, _, rfl, hl1, ok1, by decide, by decide, fun d z2 H2 hd ok2 hl2 bt => ?_⟩
  have b2 : Bs H0 l H2 := b1.trans ⟨⟨z2, hl2, ok2⟩, bt⟩
  have g1 : H2 p1 = some (.lst (((wordsOf9 p.1 es).map V.str).take a)) := bt _ _ np1 upd_same
  have hw2 : H2 wl = some (.lst ((wordsOf9 p.1 es).map V.str)) := bt _ _ n1 (s1 _ _ h1)
  have ho2 : H2 ol = some (.lst (odd13.map V.str)) := bt _ _ n2 (s1 _ _ h2)
  obtain ⟨o, ho⟩ : ∃ o, odd13[d]? = some o := ⟨_, List.getElem?_eq_getElem (by show d < 13; omega)⟩
  have hom : o ∈ oddW ∨ o = big7 := by
    rcases List.mem_append.mp (List.mem_of_getElem? ho) with z | z
    · exact .inl z
    · exact .inr (List.mem_singleton.mp z)
  have hol : o.length ≤ 100000 := by
    rcases hom with z | rfl
    · exact Nat.le_trans (odd_wok o z).2.2.1 (by decide)
    · exact Nat.le_trans big7_len (by decide)
  refine ⟨ol, _, d, .str o, rfl, rfl, SqL.of ho2, atI_nat (by rw [List.getElem?_map, ho]; rfl), (by show 1 ≤ sizeLine; decide), fun pt hpt => ?_⟩
  have s2 := same_new (o := HO.lst [V.str o]) hpt
  have lt : (((wordsOf9 p.1 es).map V.str).take a).length = a := by rw [List.length_take, List.length_map]; omega
  refine ⟨p1, pt, _, _, rfl, rfl, s2 _ _ g1, upd_same, by rw [lt, List.length_singleton]; exact Nat.le_trans (show _ ≤ 20 by omega) (by decide), fun pc hpc => ?_⟩
  have s3 := same_new (o := HO.lst (((wordsOf9 p.1 es).map V.str).take a ++ [V.str o])) hpc
  have e2 : (a : Int) + 1 = ((a + 1 : Nat) : Int) := by omega
  refine ⟨_, rfl, _, rfl, _, _, rfl, rfl, (a : Int) + 1, rfl, wl, _, rfl, SqL.of (s3 _ _ (s2 _ _ hw2)), ?_⟩
  rw [e2]
  refine fun p2 hp2 => ?_
  rw [cutL_from (by rw [List.length_map]; omega) (by omega)]
  have s4 := same_new (o := HO.lst (((wordsOf9 p.1 es).map V.str).drop (a + 1))) hp2
  refine ⟨pc, p2, _, _, rfl, rfl, s4 _ _ upd_same, upd_same, ?_, fun pz hpz => ?_⟩
  · rw [List.length_append, lt, List.length_singleton, List.length_drop, List.length_map]
    exact Nat.le_trans (show _ ≤ 20 by omega) (by decide)
  · refine ⟨" ", pz, ((wordsOf9 p.1 es).take a ++ [o]) ++ (wordsOf9 p.1 es).drop (a + 1), rfl, rfl, .inl (SqL.of ?_), room9 ?_ fun w hw => ?_, r _ _ ⟨_, rfl, sp_odd h hf (by rw [← hl]; exact ha) hom, b2.same (((s2.trans s3).trans s4).trans (same_new hpz))⟩⟩
    · rw [upd_same, List.map_append, List.map_append, List.map_take, List.map_drop]
      rfl
    · rw [List.length_append, List.length_append, List.length_take, List.length_drop, List.length_singleton]
      omega
    · rcases List.mem_append.mp hw with hw | hw
      · rcases List.mem_append.mp hw with hw | hw
        · exact Nat.le_trans (ws_w h hf w (List.mem_of_mem_take hw)).2 (by decide)
        · rw [List.mem_singleton.mp hw]
          exact hol
      · exact Nat.le_trans (ws_w h hf w (List.mem_of_mem_drop hw)).2 (by decide)
def signs3 : List Str := [" ", "\n", "/"]
theorem hS6 (h : p ∈ formsL) (hf : Paired Fits es p.2) (Dg : Cl P w K mg base CX0 1 "_law_digit" ["_law_state", "_law_base"] spDigit) (hr : Room (j + 1) (XSp P w K mg base f cdv A outer s H0 E).A) : HoI (XSp P w K mg base f cdv A outer s H0 E) (stS 6) (S4 H0 l (Txt.join " " (wordsOf9 p.1 es)) (wordsOf9 p.1 es)) (S4 H0 l (Txt.join " " (wordsOf9 p.1 es)) (wordsOf9 p.1 es)) (RS H0 l) := by
  refine ⟨_, ps_if (pt_cmpR op_eq (pv 5) pe_int (nomark _)) (pss_one (ps_ret (pe_join pe_str (pe_op op_cat (pe_op op_cat (pe_slice sl_list (pv 2) po_none (po_some (pv 3))) (pe_lst (pa_cons (pe_op op_add_str (pe_ix ix_list (pv 2) (pv 3) (fun _ _ => rfl)) (pe_ix ix_list (pe_lst (pa_cons pe_str (pa_cons pe_str (pa_cons pe_str pa_nil)))) (pe_cl Dg hr (by omega) (by rfl) pass0 (pa_cons (pv 0) (pa_cons pe_int pa_nil))) (fun _ _ => rfl))) pa_nil))) (pe_slice sl_list (pv 2) (po_some (pe_op op_add (pv 3) pe_int)) po_none))))) pss_nil, ?_⟩
  rintro D σ H g q r
  have g0 := g
  obtain ⟨wl, ol, a, wy, rfl, ha, hw, h1, n1, h2, n2, b⟩ := g
  have hl := ws_len h hf
  have hp3 := p3 h hf
  refine ⟨_, rfl, rfl, _, rfl, ite2 (fun c => ?_) (fun c => q _ _ g0)⟩
  refine ⟨⟨_, rfl⟩, _, rfl, _, rfl, _, rfl, wl, _, rfl, SqL.of h1, fun p1 hp1 => ?_⟩
  rw [cutL_to (by rw [List.length_map]; exact ha)]
  have s1 := same_new (o := HO.lst (((wordsOf9 p.1 es).map V.str).take a)) hp1
  obtain ⟨v, hv⟩ : ∃ v, (wordsOf9 p.1 es)[a]? = some v := ⟨_, List.getElem?_eq_getElem ha⟩
  have np1 : p1 ≠ l := by
    obtain ⟨z0, hl0, _⟩ := b.st
    exact (ne_of_none hl0 hp1).symm
  refine ⟨_, rfl, _, rfl, wl, _, a, .str v, rfl, rfl, SqL.of (s1 _ _ h1), atI_nat (by rw [List.getElem?_map, hv]; rfl), (by show 3 ≤ sizeLine; decide), fun pn hpn => ?_⟩
  have s1b := same_new (o := HO.lst (signs3.map V.str)) hpn
  have b1 := (b.same s1).same s1b
  obtain ⟨z1, hl1, ok1⟩ := b1.st
  have npn : pn ≠ l := by
    obtain ⟨z0, hl0, _⟩ := (b.same s1).st
    exact (ne_of_none hl0 hpn).symm
  refine ⟨_, rfl, l, z1, _, rfl, hl1, ok1, by decide, by decide, fun d z2 H2 hd ok2 hl2 bt => ?_⟩
  have b2 : Bs H0 l H2 := b1.trans ⟨⟨z2, hl2, ok2⟩, bt⟩
  have g1 : H2 p1 = some (.lst (((wordsOf9 p.1 es).map V.str).take a)) := bt _ _ np1 (s1b _ _ upd_same)
  have hw2 : H2 wl = some (.lst ((wordsOf9 p.1 es).map V.str)) := bt _ _ n1 (s1b _ _ (s1 _ _ h1))
  have hn2 : H2 pn = some (.lst (signs3.map V.str)) := bt _ _ npn upd_same
  obtain ⟨y, hy⟩ : ∃ y, signs3[d]? = some y := ⟨_, List.getElem?_eq_getElem (by show d < 3; omega)⟩
  have hym : y = " " ∨ y = "\n" ∨ y = "/" := by
    have := List.mem_of_getElem? hy
    simpa [signs3] using this
  have hyl : y.length = 1 := by
    rcases hym with rfl | rfl | rfl <;> rfl
  have hvl := (words_asc h hf v (List.mem_of_getElem? hv)).2
  have hvy : (v ++ y).length ≤ 100000 := by
    have t : ∀ z : Str, z.length = (tl z).length := fun z => (Array.length_toList).symm
    rw [t, tl_add, List.length_append, ← t, ← t, hyl]
    omega
  have bad : Bad9 (Txt.join " " (((wordsOf9 p.1 es).take a ++ [v ++ y]) ++ (wordsOf9 p.1 es).drop (a + 1))) := by
    rcases hym with rfl | rfl | rfl
    · exact sp_blank h hf hv
    · exact sp_sign h hf hv "\n" (.inl rfl)
    · exact sp_sign h hf hv "/" (.inr rfl)
  refine ⟨pn, _, d, .str y, rfl, rfl, SqL.of hn2, atI_nat (by rw [List.getElem?_map, hy]; rfl), v, y, rfl, rfl, by rw [hyl]; exact Nat.le_trans (Nat.add_le_add_right hvl 1) (by decide), (by show 1 ≤ sizeLine; decide), fun pt hpt => ?_⟩
  have s2 := same_new (o := HO.lst [V.str (v ++ y)]) hpt
  have lt : (((wordsOf9 p.1 es).map V.str).take a).length = a := by rw [List.length_take, List.length_map]; omega
  refine ⟨p1, pt, _, _, rfl, rfl, s2 _ _ g1, upd_same, by rw [lt, List.length_singleton]; exact Nat.le_trans (show _ ≤ 20 by omega) (by decide), fun pc hpc => ?_⟩
  have s3 := same_new (o := HO.lst (((wordsOf9 p.1 es).map V.str).take a ++ [V.str (v ++ y)])) hpc
  have e2 : (a : Int) + 1 = ((a + 1 : Nat) : Int) := by omega
  refine ⟨_, rfl, _, rfl, _, _, rfl, rfl, (a : Int) + 1, rfl, wl, _, rfl, SqL.of (s3 _ _ (s2 _ _ hw2)), ?_⟩
  rw [e2]
  refine fun p2 hp2 => ?_
  rw [cutL_from (by rw [List.length_map]; omega) (by omega)]
  have s4 := same_new (o := HO.lst (((wordsOf9 p.1 es).map V.str).drop (a + 1))) hp2
  refine ⟨pc, p2, _, _, rfl, rfl, s4 _ _ upd_same, upd_same, ?_, fun pz hpz => ?_⟩
  · rw [List.length_append, lt, List.length_singleton, List.length_drop, List.length_map]
    exact Nat.le_trans (show _ ≤ 20 by omega) (by decide)
  · refine ⟨" ", pz, ((wordsOf9 p.1 es).take a ++ [v ++ y]) ++ (wordsOf9 p.1 es).drop (a + 1), rfl, rfl, .inl (SqL.of ?_), room9 ?_ fun w hw => ?_, r _ _ ⟨_, rfl, bad, b2.same (((s2.trans s3).trans s4).trans (same_new hpz))⟩⟩
    · rw [upd_same, List.map_append, List.map_append, List.map_take, List.map_drop]
      rfl
    · rw [List.length_append, List.length_append, List.length_take, List.length_drop, List.length_singleton]
      omega
    · rcases List.mem_append.mp hw with hw | hw
      · rcases List.mem_append.mp hw with hw | hw
        · exact Nat.le_trans (ws_w h hf w (List.mem_of_mem_take hw)).2 (by decide)
        · rw [List.mem_singleton.mp hw]
          exact hvy
      · exact Nat.le_trans (ws_w h hf w (List.mem_of_mem_drop hw)).2 (by decide)
end
end K9
set_option Elab.async false
set_option linter.all false
set_option maxRecDepth 100000
set_option maxHeartbeats 8000000
set_option autoImplicit false
/-! _law_spoilt, whole -/
namespace K9
open PySem PySem.Spec PyProof.Rows L2 Cm Tx Tk
def five (t : Str) : List Str := [Str.ofString " " ++ t, t ++ Str.ofString " ", t ++ Str.ofString "\n", Txt.upper t, Txt.replace t " " "  "]
section
variable {P : Program} {w : World} {K : PySem.W.Frag} {mg : Str → Option Value} {base : Heap} {f : Addr} {cdv : Value} {A : Around} {outer : List Env} {s : Shared} {H0 : Hp} {E : XK} {l : Addr} {j : Nat} {p : Str × List Str} {es : List EV}
theorem text_short (h : p ∈ formsL) (hf : Paired Fits es p.2) : (Txt.join " " (wordsOf9 p.1 es)).length ≤ 90000 := join_short (by rw [ws_len h hf]; have := (p3 h hf).1; omega) fun w hw => (ws_w h hf w hw).2
theorem hS7 (h : p ∈ formsL) (hf : Paired Fits es p.2) (Dg : Cl P w K mg base CX0 1 "_law_digit" ["_law_state", "_law_base"] spDigit) (hr : Room (j + 1) (XSp P w K mg base f cdv A outer s H0 E).A) : HoI (XSp P w K mg base f cdv A outer s H0 E) (stS 7) (S4 H0 l (Txt.join " " (wordsOf9 p.1 es)) (wordsOf9 p.1 es)) (S4 H0 l (Txt.join " " (wordsOf9 p.1 es)) (wordsOf9 p.1 es)) (RS H0 l) := by
  refine ⟨_, ps_if (pt_cmpR op_eq (pv 5) pe_int (nomark _)) (pss_one (ps_ret (pe_ix ix_list (pe_lst (pa_consG (peg_op op_add_str peg_str (pv 1)) (pat_cons (CwR.PET.of (pe_op op_add_str (pv 1) pe_str)) (pat_cons (CwR.PET.of (pe_op op_add_str (pv 1) pe_str)) (pat_cons (CwR.PET.of (pe_upper (pv 1))) (pat_cons (CwR.pet_replC (pv 1)) pat_nil)))))) (pe_cl Dg hr (by omega) (by rfl) pass0 (pa_cons (pv 0) (pa_cons pe_int pa_nil))) (fun _ _ => rfl)))) pss_nil, ?_⟩
  rintro D σ H g q r
  have g0 := g
  obtain ⟨wl, ol, a, wy, rfl, ha, hw, h1, n1, h2, n2, b⟩ := g
  have ht := text_short h hf
  generalize htt : Txt.join " " (wordsOf9 p.1 es) = t at ht g0 q ⊢
  have z1 : ∀ n : Nat, n ≤ 90001 → n ≤ sizeLine := fun n hn => Nat.le_trans hn (by decide)
  have l1 : (Str.ofString " ").length = 1 := rfl
  have l2 : (Str.ofString "\n").length = 1 := rfl
  have l3 : (Str.ofString "  ").length = 2 := rfl
  refine ⟨_, rfl, rfl, _, rfl, ite2 (fun c => ?_) (fun c => q _ _ g0)⟩
  refine ⟨_, rfl, _, _, rfl, rfl, z1 _ (by rw [l1]; omega), _, rfl, _, _, rfl, rfl, z1 _ (by rw [l1]; omega), _, rfl, _, _, rfl, rfl, z1 _ (by rw [l2]; omega), _, rfl, ⟨_, rfl⟩, _, rfl, rfl, by omega, _, rfl, t, rfl, by rw [l3]; omega, (by show 5 ≤ sizeLine; decide), fun pn hpn => ?_⟩
  have s1 := same_new (o := HO.lst ((five t).map V.str)) hpn
  have b1 := b.same s1
  obtain ⟨z1', hl1, ok1⟩ := b1.st
  have npn : pn ≠ l := by
    obtain ⟨z0, hl0, _⟩ := b.st
    exact (ne_of_none hl0 hpn).symm
  refine ⟨_, rfl, l, z1', _, rfl, hl1, ok1, by decide, by decide, fun d z2 H2 hd ok2 hl2 bt => ?_⟩
  have b2 : Bs H0 l H2 := b1.trans ⟨⟨z2, hl2, ok2⟩, bt⟩
  obtain ⟨y, hy⟩ : ∃ y, (five t)[d]? = some y := ⟨_, List.getElem?_eq_getElem (by show d < 5; omega)⟩
  have bad : Bad9 y := by
    subst htt
    match d, hy with
    | 0, hy => cases hy; exact sp_front h hf
    | 1, hy => cases hy; exact sp_back h hf
    | 2, hy => cases hy; exact sp_nl h hf
    | 3, hy => cases hy; exact sp_upper h hf
    | 4, hy => cases hy; exact sp_gaps h hf
    | d + 5, hy => cases hy
  exact ⟨pn, _, d, .str y, rfl, rfl, SqL.of (bt _ _ npn upd_same), atI_nat (show ((five t).map V.str)[d]? = some (.str y) by rw [List.getElem?_map, hy]; rfl), r _ _ ⟨y, rfl, bad, b2⟩⟩
def spSpoilt : Sp := fun vs H Q _ => ∃ l p es, vs = [.ref l, .str (Txt.join " " (wordsOf9 p.1 es))] ∧ StAt H l ∧ p ∈ formsL ∧ Paired Fits es p.2 ∧ ∀ z H', Bad9 z → Bs H l H' → Q (.str z) H'
theorem ok_spoilt {fd : FuncData} {k : Nat} (F : Fun K "_law_spoilt" "_law_spoilt" sSpoilt f fd) (B : Bi mg) (Dg : Cl P w K mg base CX0 1 "_law_digit" ["_law_state", "_law_base"] spDigit) (On : Cl P w K mg base CX0 2 "_law_one" ["_law_state", "_law_some"] (spOne K)) : FnOk P w K mg base CX0 (k + 3) f fd ["_law_state", "_law_text_here"] spSpoilt := by
  refine F.ok scSp (fun vs H Q E h => ?_) (fun cdv A outer s H vs Q E hr h => ?_)
  · obtain ⟨l, p, es, rfl, _⟩ := h
    rfl
  · obtain ⟨l, p, es, rfl, st, hp, hf, q⟩ := h
    have hr2 : Room (k + 2) (XSp P w K mg base f cdv A outer s H E).A := hr
    have hr1 : Room (k + 1) (XSp P w K mg base f cdv A outer s H E).A := hr.mono (by omega)
    have hl := ws_len hp hf
    have hp3 := p3 hp hf
    rw [bodySp]
    obtain ⟨t, ht, h2⟩ := HoI.cons (hS4 (P := P) (w := w) (K := K) (mg := mg) (base := base) (f := f) (cdv := cdv) (A := A) (outer := outer) (s := s) (H0 := H) (E := E) (l := l) hp hf) (HoI.cons (hS5 hp hf On hr2) (HoI.cons (hS6 hp hf Dg hr1) (HoI.cons (hS7 hp hf Dg hr1) (hS8 hp hf Dg hr1))))
    obtain ⟨u, hu, h1⟩ := hSs (P := P) (w := w) (K := K) (mg := mg) (base := base) (f := f) (cdv := cdv) (A := A) (outer := outer) (s := s) (H0 := H) (E := E) (l := l) (t := Txt.join " " (wordsOf9 p.1 es)) (ws := wordsOf9 p.1 es) B Dg hr1 (text_short hp hf) (split_words (by unfold wordsOf9; simp) fun w hw => (ws_w hp hf w hw).1) (by omega) (by omega) ht
    exact ⟨u, hu, h1 _ _ _ ⟨rfl, st, But.refl _ _⟩ fun σ' H' g => h2 _ σ' H' g fun v H' ⟨z, e, bd, b⟩ => by
      subst e
      exact q z H' bd b⟩
end
end K9
set_option autoImplicit true
set_option Elab.async false
set_option linter.all false
set_option maxRecDepth 100000
set_option maxHeartbeats 4000000
/-! The fields of an own exception held as a value. -/
namespace ErV
open PySem PySem.Spec PyProof.Rows L2
/-- e.f, e an exception with a dict, held as a value -/
def tXv (K : PySem.W.Frag) (f : Str) (te : TE) : TE := fun σ H Q => te σ H fun x H1 => ∃ (a C dx : Addr) (fs : List (Str × V)) (v : V), x = .ref a ∧ H1 a = some (exo a C (some dx)) ∧ H1 dx = some (exd dx fs) ∧ XfC K C ∧ PySem.W.findIn K (.ref C) f = some none ∧ fs.lookup f = some v ∧ Q v H1
theorem pe_xv {X : Cx} {e : Expr} {te : TE} {pos : Pos} {f : Str} (he : PE X e te) (hb : attributeBase e f X.env (eval e X.env) = eval e X.env := by rfl) : PE X (.Attribute e f pos) (tXv X.K f te) := by
  constructor
  intro pins s σ H Q I h
  refine attr_of hb (thn (he.run pins s σ H _ I h) ?_)
  rintro u s1 ⟨x, H1, J, rx, a, C, dx, fs, v, ex, ha, hd, T, hno, hl, q⟩
  subst ex
  cases (show u = Value.ref a from rx)
  obtain ⟨t1, hoe⟩ := exo_at J.hok ha
  obtain ⟨mA, hns, rel⟩ := exd_at J.hok hd
  obtain ⟨od, ho, hlk⟩ := lookIn_ns hns
  obtain ⟨w0, hw, rw0⟩ := RelO.some_of (v := v) (o := mA f) (by rw [← hl]; exact rel f)
  exact HandSPX.exc_get J.kIn ⟨hoe, rfl, rfl, ho⟩ T.ga T.gg T.exC (PySem.W.findObj_own T.hdC hno rfl (by rw [hlk, hw])) (handed_of rw0) ⟨v, H1, J.tok _, rw0, q⟩
end ErV
set_option autoImplicit true
set_option Elab.async false
set_option linter.all false
set_option maxRecDepth 100000
set_option maxHeartbeats 4000000
/-! isinstance of an own exception with a dict, held as a value. -/
namespace ErV
open PySem PySem.Spec PyProof.Rows L2
/-- isinstance(e, c) -/
def rIsO (K : PySem.W.Frag) : List V → Hp → VK → Prop := fun xs H Q => ∃ (a D dx : Addr) (fs : List (Str × V)) (c : V) (cv : Value) (b : Bool), xs = [.ref a, c] ∧ H a = some (exo a D (some dx)) ∧ H dx = some (exd dx fs) ∧ ExcC K D ∧ (∀ u, RelV c u → u = cv) ∧ PySem.W.kitOne K (.ref D) cv = some b ∧ Q (.bl b) H
theorem call_isO {X : Cx} : CallR X (.builtin "isinstance") (rIsO X.K) := by
  intro pins s σ H xs us Q I r h
  obtain ⟨a, D, dx, fs, c, cv, b, rfl, ha, hd, C, hcv, e, q⟩ := h
  obtain ⟨u1, u2, rfl, r1, r2⟩ := vals2 r
  cases (show u1 = Value.ref a from r1)
  have ec := hcv _ r2
  subst ec
  obtain ⟨t1, hoe⟩ := exo_at I.hok ha
  obtain ⟨mA, hns, rel⟩ := exd_at I.hok hd
  obtain ⟨od, ho, hlk⟩ := lookIn_ns hns
  have hcl : (PySem.W.clsIn X.K D).isSome = true := by
    obtain ⟨cd, hc, _⟩ := PySem.W.any_some C.hd
    rw [hc]
    rfl
  exact PySem.W.kia_one (PySem.W.kitx_exc (od := some od) hcl C.hg C.hk C.hs C.ha C.hn C.ht C.hm) I.kIn ⟨hoe, rfl, rfl, ho⟩ e (fun z => nomatch z) fun tk => ⟨.bl b, H, I.tok tk, rfl, q⟩
end ErV
set_option autoImplicit true
set_option Elab.async false
set_option linter.all false
set_option maxRecDepth 100000
set_option maxHeartbeats 4000000
/-! lambdas without parameters as values: made, kept, handed to a def that calls them -/
namespace LmB
open PySem PySem.Spec PyProof.Rows L2 LamX NdefX
/-- a lambda's words (the body beside): an NF without statements -/
abbrev LF (qual : Str) (params : Arguments) (scope : Scope) (cl : List (Str × Addr)) (c : Addr) : NF := ⟨"<lambda>", qual, params, [], scope, cl, c⟩
def LamO (f : Addr) (F : NF) (body : Expr) : HO := .ext fun h => ∃ pm ctv, h.get? f = some (PySem.W.kla_obj "<lambda>" F.qual F.params body F.scope F.cl pm F.c ctv)
theorem lamO_ne {f : Addr} {F : NF} {b : Expr} (ps : Array Value) : LamO f F b ≠ .tbl ps := fun z => by
  unfold LamO at z
  cases z
theorem lamO_at {P : Program} {w : World} {H : Hp} {h : Heap} {f : Addr} {F : NF} {b : Expr} (hok : HOk P w H h) (e : H f = some (LamO f F b)) : ∃ pm ctv, h.get? f = some (PySem.W.kla_obj "<lambda>" F.qual F.params b F.scope F.cl pm F.c ctv) := by
  obtain ⟨z, _, _⟩ := hok f _ e
  exact z
section
variable {X : Cx} {pins : List (Addr × Obj)} {σ : L2.St} {H : Hp} {s : Shared}
theorem inv_lam {F : NF} {b : Expr} {o : Obj} {t' : Nat} {pm ctv : Value} (I : Inv X pins σ H s) (ho : o = PySem.W.kla_obj "<lambda>" F.qual F.params b F.scope F.cl pm F.c ctv) :
    Inv X pins σ (upd H s.heap.objs.size (LamO s.heap.objs.size F b)) { s with heap := s.heap.push o, toks := t' } := by
  subst ho
  refine I.laid (a := s.heap.objs.size) (fun b u e => Heap.get?_push_of_some _ e) (Nat.le_refl _) ?_
  have e : (s.heap.push (PySem.W.kla_obj "<lambda>" F.qual F.params b F.scope F.cl pm F.c ctv)).get? s.heap.objs.size = some (PySem.W.kla_obj "<lambda>" F.qual F.params b F.scope F.cl pm F.c ctv) := Heap.get?_push_size _ rfl
  exact ⟨⟨pm, ctv, e⟩, ⟨_, e⟩, fun h1 h2 ⟨p, t, z⟩ st => ⟨p, t, st _ z⟩⟩
/-- the lambda is made: known from now on -/
theorem lam_makeO {T : List (Addr × Str)} {c P : Addr} {params : Arguments} {body : Expr} {scope : Scope} {pos : Pos} {E : Value → Shared → Prop} {Q : Value → Shared → Prop} (I : Inv X pins σ H s) (TB : TabB X.base X.mg c P) (hcode : X.env.code = .ref c)
    (hm : (P, X.env.qual ++ "<lambda>") ∈ T) (hu : ∀ p ∈ T, p.1 = P → p.2 = X.env.qual ++ "<lambda>") (hT : Tabs T H) (hdef : defaultsOf params X.env = ([], [])) (hfree : ∀ y ∈ scope.names, y.2 = .free → ∃ c, X.env.cells.lookup y.1 = some c)
    (h : ∀ (f c' : Addr) (H1 : Hp) (s' : Shared), Inv X pins σ H1 s' → ExtN H H1 → Tabs T H1 → H f = none → H1 f = some (LamO f (LF (X.env.qual ++ "<lambda>") params scope (cloFrom X.env.cells scope.names []) c') body) → H1 c' = some (CodeO c' (X.env.qual ++ "<lambda>")) → Q (.ref f) s') :
    wpAny (model X.prog X.w) X.A (eval (.Lambda params body scope pos) X.env) Q E s := by
  obtain ⟨ps, hP, ht, ha⟩ := hT _ hm
  refine PySem.W.kla_eval hdef ?_
  have bP : s.heap.BuiltinsAt X.mg P := TB.bm.keeps I.bk
  have hP' : s.heap.get? P = some { cls := .none, data := .fields ps } := I.hok P _ hP
  cases hc : codeAmong pos ps.toList with
  | none =>
    refine PySem.W.kla_makeFunction (mg := X.mg) (c := c) (P := P) (ps := ps) (closure_ok hfree) I.ok.glob (I.mod.glob.keeps I.bk) hcode (TB.code.keeps I.bk) hP' ht hc TB.gP bP fun c' ctv h' tk hx hge hlt hrec htb => ?_
    obtain ⟨c2, oc, vs, t, e2, hoc, hd, hv⟩ := hrec
    cases e2
    have nC : H c' = none := I.hok.fresh hge
    have I1 := inv_table (t' := tk) (more := #[rawInt pos.line, rawInt pos.col, .ref c']) (h' := h') (q := X.env.qual ++ "<lambda>") I hP (fun b o hb e => hx b o hb e) htb hge ⟨oc, vs, t, hoc, hd, hv⟩
    have hE : ExtN H (upd (upd H P (.tbl (ps ++ #[rawInt pos.line, rawInt pos.col, .ref c']))) c' (CodeO c' (X.env.qual ++ "<lambda>"))) := fun b o e n => by
      rw [upd_ne (ne_of_none e nC), upd_ne (fun z => n ps (Option.some.inj (e.symm.trans (by rw [z]; exact hP))))]
      exact e
    have eL : (ps ++ #[rawInt pos.line, rawInt pos.col, .ref c']).toList = ps.toList ++ [rawInt pos.line, rawInt pos.col, .ref c'] := by simp
    have T1 : Tabs T (upd (upd H P (.tbl (ps ++ #[rawInt pos.line, rawInt pos.col, .ref c']))) c' (CodeO c' (X.env.qual ++ "<lambda>"))) := fun p hp => by
      by_cases hb : p.1 = P
      · rw [hu p hp hb, hb]
        refine ⟨_, by rw [upd_ne (ne_of_none hP nC), upd_same], by rw [eL]; exact PySem.TriplesOk_snoc _ _ _ _ ht, fun p' cv hcv => ?_⟩
        rw [eL] at hcv
        rcases among_app _ ht hcv with z | z
        · obtain ⟨c0, e1, e2⟩ := ha p' cv z
          exact ⟨c0, e1, hE _ _ e2 codeO_ne⟩
        · exact ⟨c', z, upd_same⟩
      · obtain ⟨ps', a1, a2, a3⟩ := hT p hp
        refine ⟨ps', by rw [upd_ne (ne_of_none a1 nC), upd_ne hb]; exact a1, a2, fun p' cv hcv => ?_⟩
        obtain ⟨c0, e1, e2⟩ := a3 p' cv hcv
        exact ⟨c0, e1, hE _ _ e2 codeO_ne⟩
    have nF := I1.hok.fresh (Nat.le_refl _)
    have I2 := inv_lam (F := LF (X.env.qual ++ "<lambda>") params scope (cloFrom X.env.cells scope.names []) c') (b := body) (t' := tk) (pm := (X.mg "__name__").getD .none) (ctv := ctv) I1 rfl
    refine h h'.objs.size c' _ _ I2 (fun b o e n => ?_) (T1.ext fun b o e => ?_) (I.hok.fresh (Nat.le_trans hge (Nat.le_of_lt hlt))) upd_same ?_
    · have e1 := hE b o e n
      exact (upd_ne (ne_of_none e1 nF)).trans e1
    · exact (upd_ne (ne_of_none e nF)).trans e
    · exact (upd_ne (Nat.ne_of_lt hlt)).trans upd_same
  | some cv =>
    obtain ⟨c', e, hco⟩ := ha pos cv hc
    subst e
    refine PySem.W.kla_makeFunctionHit (mg := X.mg) (c := c) (P := P) (ps := ps) (closure_ok hfree) I.ok.glob (I.mod.glob.keeps I.bk) hcode (TB.code.keeps I.bk) hP' ht hc bP fun ctv h' tk hx hsz => ?_
    have I1 : Inv X pins σ H { s with heap := h', toks := tk } := I.kept hx
    have nF : H h'.objs.size = none := I1.hok.fresh (Nat.le_refl _)
    have I2 := inv_lam (F := LF (X.env.qual ++ "<lambda>") params scope (cloFrom X.env.cells scope.names []) c') (b := body) (t' := tk) (pm := (X.mg "__name__").getD .none) (ctv := ctv) I1 rfl
    refine h h'.objs.size c' _ _ I2 (fun b o e n => ?_) (hT.ext fun b o e => ?_) nF upd_same ?_
    · exact (upd_ne (ne_of_none e nF)).trans e
    · exact (upd_ne (ne_of_none e nF)).trans e
    · exact (upd_ne (ne_of_none hco nF)).trans hco
end
/-- a lambda of these words stands at v -/
def LamAt (mk : Addr → NF) (body : Expr) (H : Hp) (v : V) : Prop := ∃ f c', v = .ref f ∧ (mk c').c = c' ∧ H f = some (LamO f (mk c') body) ∧ H c' = some (CodeO c' (mk c').qual)
theorem LamAt.ext {mk : Addr → NF} {body : Expr} {H H' : Hp} {v : V} (h : LamAt mk body H v) (e : ExtN H H') : LamAt mk body H' v := by
  obtain ⟨f, c', h1, h0, h2, h3⟩ := h
  exact ⟨f, c', h1, h0, e _ _ h2 lamO_ne, e _ _ h3 codeO_ne⟩
def tLamO (T : List (Addr × Str)) (mk : Addr → NF) (body : Expr) : TE := fun σ H Q => Tabs T H ∧ ∀ v H1, ExtN H H1 → Tabs T H1 → LamAt mk body H1 v → Q v H1
/-- lambda: body, as a value -/
theorem pe_lam {X : Cx} {T : List (Addr × Str)} {c P : Addr} {params : Arguments} {body : Expr} {scope : Scope} {pos : Pos} (TB : TabB X.base X.mg c P) (hcode : X.env.code = .ref c) (hm : (P, X.env.qual ++ "<lambda>") ∈ T) (hu : ∀ p ∈ T, p.1 = P → p.2 = X.env.qual ++ "<lambda>") (hdef : defaultsOf params X.env = ([], [])) (L : LamS X.env.scope scope) :
    PE X (.Lambda params body scope pos) (tLamO T (LF (X.env.qual ++ "<lambda>") params scope (cloFrom X.env.cells scope.names [])) body) :=
  ⟨fun pins s σ H Q I ⟨hT, h⟩ => lam_makeO I TB hcode hm hu hT hdef (L.has I.ok) fun f c' H1 s' I1 e T1 _ hf hc => ⟨.ref f, H1, I1, rfl, h _ H1 e T1 ⟨f, c', rfl, rfl, hf, hc⟩⟩⟩
/-! ### what a lambda promises -/
/-- sp ws: ws what the captured cells hold at the call -/
abbrev LSp : Type := List (Option V) → Hp → VK → XK → Prop
structure LOk (P : Program) (w : World) (K : PySem.W.Frag) (mg : Str → Option Value) (base : Heap) (CX : CXT) (k : Nat) (f : Addr) (F : NF) (body : Expr) (fr : List Str) (sp : LSp) : Prop where
  run : ∀ (A : Around) (outer : List Env) (s : Shared) (H : Hp) (ws : List (Option V)) (Q : VK) (E : XK), Room k A → Env0 P w K mg base A outer s H → H f = some (LamO f F body) → H F.c = some (CodeO F.c F.qual) →
    CellsAt F.cl fr ws s.heap H → sp ws H Q E → codeAny (model P w) A (.call (.ref f) ⟨[], []⟩) (CR CX outer P w H s Q E) s
theorem startF_ws {fr : List Str} {ws : List (Option V)} (h : ws.length = fr.length) : startF fr [] ws = ws := by
  unfold startF
  simp [h]
theorem lok_of {CX : CXT} {P : Program} {w : World} {K : PySem.W.Frag} {mg : Str → Option Value} {base : Heap} {fr : List Str} {F : NF} {body : Expr} {f : Addr} {k : Nat} {sp : LSp} (S : NScope fr [] fr F.scope) (hb : ∀ (pm cv ctv : Value), bindArgs (PySem.W.kla_fn "<lambda>" F.qual F.params body F.scope F.cl pm cv ctv) ⟨[], []⟩ = pure [])
    (hbody : ∀ (A : Around) (outer : List Env) (s : Shared) (H : Hp) (ws : List (Option V)) (Q : VK) (E : XK), Room k (A.deeper (envF F f s.heap.objs.size)) → ws.length = fr.length → sp ws H Q E → ∃ t, PE (ncx CX P w K mg base fr F f A outer s H E) body t ∧ t ws H Q) :
    LOk P w K mg base CX (k + 1) f F body fr sp := by
  refine ⟨fun A outer s H ws Q E hr e0 hf hc C hsp => ?_⟩
  have lim : s.heap.NoLimit := e0.mod.nolimit.keeps fun b o e => (e0.bs b o e).1
  obtain ⟨pm, ctv, ho⟩ := lamO_at e0.hok hf
  refine PySem.W.kla_callFunE hr.depth ho rfl S.co S.gen rfl (codeO_at e0.hok hc) ?_
  rw [hb pm (.ref F.c) ctv]
  refine wpAny_pure (wpAny_newFunctionEnv S.nocell (fun y hy => absurd hy (by simp)) (fun h₁ hns hsb => ⟨lim.fresh _ hsb, ?_⟩) S.kind)
  show codeAny _ _ (.expr body (envF F f s.heap.objs.size)) _ _
  have kp : ∀ b o, s.heap.get? b = some o → h₁.get? b = some o := fun b o e => hsb.extBut b o (Nat.ne_of_lt (Heap.lt_size e)) (Heap.get?_push_of_some _ e)
  obtain ⟨t, ht, hq⟩ := hbody A outer s H ws Q E (hr.deeper _) C.len hsp
  have I : Inv (ncx CX P w K mg base fr F f A outer s H E) [] (startF fr [] ws) H { s with heap := h₁, toks := s.toks + ([] : List (Str × Value)).length } := inv_startN (ps := []) (us := []) S hr.hd e0 rfl .nil C hns kp
  rw [startF_ws C.len] at I
  refine PySem.W.kla_codeExpr (wpAny_mono (ht.run [] _ ws H Q I hq) (fun v s' hq => ?_) fun e s' hq => hq)
  obtain ⟨w', H', J', rv, q⟩ := hq
  exact ⟨w', H', J'.os, J'.bare, J'.base, J'.hok, rv, q⟩
/-- a(), in the def that got the lambda -/
theorem pe_act3 {Z : Cx} {CX : CXT} {f : Addr} {F : NF} {body : Expr} {fr : List Str} {ws : List (Option V)} {sp : LSp} {k i : Nat} {a : Str} {E : L2.St → XK} {p1 p2 : Pos} (L : LOk Z.prog Z.w Z.K Z.mg Z.base CX k f F body fr sp) (C : CellsAt F.cl fr ws Z.s_0.heap Z.H_0) (nf : ∀ y c, F.cl.lookup y = some c → c ∉ Z.fs) (nx : ∀ y c, F.cl.lookup y = some c → c ∉ Z.ex) (hr : Room k Z.A) (hx : ∀ σ, PassesAt CX Z σ (E σ)) (hN : Z.N[i]? = some a) (hv : Vis Z.env.scope a) (hd : (a == ("__debug__" : Str)) = false := by decide) (hcd : (a == ("__classdict__" : Str)) = false := by decide) :
    PE Z (.Call (.Name a p1) [] [] p2) (fun σ H Q => σ[i]? = some (some (.ref f)) ∧ H f = some (LamO f F body) ∧ H F.c = some (CodeO F.c F.qual) ∧ sp ws H Q (E σ)) := by
  refine ⟨fun pins s σ H Q I h => ?_⟩
  obtain ⟨hs, hf, hc, q⟩ := h
  refine wpAny_Call_Name_kw (thn ((pe_var (pos := p1) (i := i) hN hv hd hcd).run pins s σ H (fun v H1 => v = .ref f ∧ H1 = H) I ⟨.ref f, hs, rfl, rfl⟩) fun u s1 ⟨v, H1, I1, r1, q1⟩ => ?_)
  obtain ⟨ev, eH⟩ := q1
  subst ev
  rw [eH] at I1
  obtain rfl : u = Value.ref f := r1
  obtain ⟨pm, ctv, ho⟩ := lamO_at I1.hok hf
  refine PySem.W.callWith_F0 (first := []) ⟨_, _, _, _, ho⟩ ?_
  show wpAny _ _ (call (.ref f) []) _ _ _
  refine wpAny_call (codeAny_mono (L.run Z.A Z.stack s1 H ws Q (E σ) hr I1.env0 hf hc (C.later nf nx I1) q) fun r s' hq => ?_)
  cases r with
  | error e => exact hx σ pins H s1 e s' I1 hq
  | ok fl =>
    cases fl with
    | ret u => exact I1.after hq
    | next => exact False.elim hq
    | brk => exact False.elim hq
    | cont => exact False.elim hq
/-! ### a def that gets a lambda -/
/-- what a def makes of the lambda that it gets: TT, of the lambda's promise -/
abbrev TTp : Type := (Hp → VK → XK → Prop) → Hp → VK → Prop
structure GOk (P : Program) (w : World) (K : PySem.W.Frag) (mg : Str → Option Value) (base : Heap) (k j : Nat) (x : Str) (TT : TTp) : Prop where
  ex : ∃ g : Addr, mg x = some (.ref g) ∧ PySem.W.keepIn K (.ref g) = true ∧ ∀ (A : Around) (outer : List Env) (s : Shared) (H : Hp) (f : Addr) (F : NF) (body : Expr) (fr : List Str) (ws : List (Option V)) (sp : LSp) (Q : VK) (E : XK), Room j A → Env0 P w K mg base A outer s H → H f = some (LamO f F body) → H F.c = some (CodeO F.c F.qual) →
    CellsAt F.cl fr ws s.heap H → (∀ y c, F.cl.lookup y = some c → c ∉ frs outer) → LOk P w K mg base (L2.CX P w) k f F body fr sp → TT (sp ws) H Q → codeAny (model P w) A (.call (.ref g) ⟨[.ref f], []⟩) (CR CX0 outer P w H s Q E) s
/-- the cells at every state of a context -/
def CellC (Y : Cx) (cl : List (Str × Addr)) (fr : List Str) (ws : L2.St → List (Option V)) : Prop := ∀ pins σ H s, Inv Y pins σ H s → CellsAt cl fr (ws σ) s.heap H ∧ ∀ y c, cl.lookup y = some c → c ∉ frs Y.stack
theorem cellC_own {X : Cx} {cl : List (Str × Addr)} {fr : List Str} {js : List Nat} (cp : X.Ok → Caps X cl fr js) (hfn : ∀ y, X.fn y = true) : CellC X cl fr (fun σ => js.map (slotAt σ)) := fun pins σ H s I => by
  refine ⟨cells_of I (cp I.ok), fun y c e hb => ?_⟩
  have ec := (cp I.ok).sub y c e
  rcases List.mem_cons.mp (I.stkSub c hb) with z | z
  · exact I.cne y c ec z
  · obtain ⟨_, o, ho, _⟩ := I.ok.funs.mem z
    exact absurd (Nat.lt_of_lt_of_le (Heap.lt_size ho) (I.ok.cab y c (hfn y) ec)) (Nat.lt_irrefl _)
theorem cellC_blk {X : Cx} {cl : List (Str × Addr)} {fr : List Str} {js : List Nat} {pins : List (Addr × Obj)} {σ : L2.St} {H : Hp} {s : Shared} {scope : Scope} {ce : Env} {fp : List Addr} (cp : X.Ok → Caps X cl fr js) (hfn : ∀ y, X.fn y = true) (I : Inv X pins σ H s) (hfp : ∀ b ∈ fp, ∀ x c, X.env.cells.lookup x = some c → c ≠ b) :
    CellC (X.blk s H scope ce fp) cl fr (fun _ => js.map (slotAt σ)) := fun pins' σ' H' s' I' => by
  obtain ⟨C, hn⟩ := cellC_own cp hfn pins σ H s I
  refine ⟨CellsAt.later (X := X.blk s H scope ce fp) C hn (fun y c e hb => ?_) I', hn⟩
  exact hfp c hb y c ((cp I.ok).sub y c e) rfl
/-- x(e), e a lambda of one of the kinds ls -/
structure LKind where
  nf : Addr → NF
  body : Expr
  sp : LSp
def tGive (cl : List (Str × Addr)) (ls : List LKind) (ws : L2.St → List (Option V)) (TT : TTp) (te : TE) : TE := fun σ H Q => te σ H fun v0 H1 => ∃ v, [v0] = [v] ∧ ∃ l ∈ ls, (∀ c, (l.nf c).cl = cl) ∧ LamAt l.nf l.body H1 v ∧ TT (l.sp (ws σ)) H1 Q
theorem pe_give {Y : Cx} {cl : List (Str × Addr)} {fr : List Str} {ls : List LKind} {ws : L2.St → List (Option V)} {TT : TTp} {x : Str} {k j : Nat} {te : TE} {ea : Expr} {p pos : Pos} (G : GOk Y.prog Y.w Y.K Y.mg Y.base k j x TT) (hg : Gl Y x) (C : CellC Y cl fr ws) (hr : Room j Y.A) (L : ∀ l ∈ ls, ∀ f c, LOk Y.prog Y.w Y.K Y.mg Y.base (L2.CX Y.prog Y.w) k f (l.nf c) l.body fr l.sp) (ha : PE Y ea te)
    (hdb : (x == ("__debug__" : Str)) = false := by decide) (he : starEach [ea] Y.env = (false, eval ea Y.env) :: starEach [] Y.env := by rfl) : PE Y (.Call (.Name x p) [ea] [] pos) (tGive cl ls ws TT te) := by
  refine ⟨fun pins s σ H Q I h => ?_⟩
  obtain ⟨g, hm, hk, run⟩ := G.ex
  refine wpAny_Call_Name_kw (ld_glob I hg hm ?_ hdb)
  refine PySem.W.callWith_K (h₀ := Y.base) I.ok.mod.kin hk ?_ he (by rfl)
  refine thn ((pa_cons (hs := he) ha pa_nil).run pos pins s σ H (fun vs H1 => ∃ v, vs = [v] ∧ ∃ l ∈ ls, (∀ c, (l.nf c).cl = cl) ∧ LamAt l.nf l.body H1 v ∧ TT (l.sp (ws σ)) H1 Q) I h) fun us s2 ⟨vs, H2, I2, r, v, ev, l, hl, hcl, ⟨f, c', e1, e0, hf, hc⟩, q2⟩ => ⟨I2.kIn, ?_⟩
  subst ev
  subst e1
  obtain ⟨u, us', rfl, ru, r'⟩ : ∃ u us', us = u :: us' ∧ RelV (.ref f) u ∧ Vals [] us' := by
    cases r with
    | cons a b => exact ⟨_, _, rfl, a, b⟩
  cases r'
  obtain rfl : u = Value.ref f := ru
  obtain ⟨CA, nf⟩ := C pins σ H2 s2 I2
  have hc2 : H2 (l.nf c').c = some (CodeO (l.nf c').c (l.nf c').qual) := by rw [e0]; exact hc
  refine wpAny_call (codeAny_mono (run Y.A Y.stack s2 H2 f (l.nf c') l.body fr (ws σ) l.sp Q (fun _ _ _ => False) hr I2.env0 hf hc2 (by rw [hcl c']; exact CA) (by rw [hcl c']; exact nf) (L l hl f c') q2) fun r s' hq => ?_)
  cases r with
  | error e => exact (show False from hq).elim
  | ok fl =>
    cases fl with
    | ret u => exact I2.after hq
    | next => exact False.elim hq
    | brk => exact False.elim hq
    | cont => exact False.elim hq
end LmB
namespace LmB
open PySem PySem.Spec PyProof.Rows L2 LamX NdefX
section
variable {X : Cx}
/-- a list comprehension whose element leans on the def's own cells: its rule is asked where the def's state holds -/
theorem lc_coreI {pins : List (Addr × Obj)} {s : Shared} {σ : L2.St} {H : Hp} {Q : VK} {elt tg iter : Expr} {ifs : List Expr} {scope : Scope} {own : List (Str × Nat)} {pos pos' : Pos} {wi : TI} {g : TG} {tt : TT} {te : TE} {use : Option (Value → Sem Unit)} {Qf : Value → Shared → Prop}
    (hc : X.calm = true) (hN : X.N.Nodup) (I : Inv X pins σ H s) (hi : PI X tg iter wi) (ok : BlkOk X.N X.env.scope scope own)
    (hg : ∀ (s : Shared) (H : Hp) (C : Addr) (cl : List (Str × Addr)) (fp : List Addr), PG (X.blk s H scope (compEnvC scope cl C X.env) fp) tg g) (ht : ∀ (s : Shared) (H : Hp) (C : Addr) (cl : List (Str × Addr)) (fp : List Addr), PTs (X.blk s H scope (compEnvC scope cl C X.env) fp) ifs tt)
    (he : ∀ (s : Shared) (H : Hp) (C : Addr) (cl : List (Str × Addr)) (fp : List Addr), Inv X pins σ H s → (∀ b ∈ fp, ∀ x c, X.env.cells.lookup x = some c → c ≠ b) → PE (X.blk s H scope (compEnvC scope cl C X.env) fp) elt te) (hs : ∀ x, foldedSetIterable iter X.env x = pure x)
    (h : tLc wi g tt te (own.map (·.2)) σ H Q)
    (hRR : ∀ D C s' m H', Inv X pins σ H' s' → Q (.ref D) H' → s'.heap.Ns C m → FpOk X pins H' C → compPost (model X.prog X.w) X.A X.xe use Qf (.ref D) C (.ok .next) s') :
    wpAny (model X.prog X.w) X.A (comprehension (.ListComp elt [⟨tg, iter, ifs, 0⟩] scope pos) scope X.env pos' (newList []) false (eval iter X.env) use) Qf X.xe s := by
  have hfree : ∀ y ∈ scope.names, y.2 = .free → ∃ c, X.env.cells.lookup y.1 = some c := fun y hy e => (ok.free y hy e).elim (fun k => I.ok.has _ (.inl k)) fun k => I.ok.has _ (.inr k)
  refine wpAny_comprehension_free (use := use) rfl hs (closure_ok hfree) ok.kind (fun y hy e => by rw [ok.uniq y hy, e])
    (thn (hi.run pins s σ H _ I h) fun xv s1 hx => thn hx fun itv s2 h2 => ?_)
  obtain ⟨it, fp, tn, J, H2, e, I2, T, st2, f2, q⟩ := h2
  subst e
  refine wpAny_newObj_type (newEnv_comp ?_) (by show 0 ≤ sizeLine; decide)
  generalize hD : s2.heap.objs.size = D
  have hDn : H2 D = none := I2.hok.fresh (Nat.le_of_eq hD)
  obtain ⟨W, ⟨m0, w0⟩, turn⟩ := q D hDn
  generalize hs3 : ({ s2 with heap := s2.heap.push { cls := .type "list", data := .seq ([] : List Value).toArray } } : Shared) = s3
  have I3 : Inv X pins σ (upd H2 D (.lst [])) s3 := by
    rw [← hs3]
    refine I2.laid (t' := s2.toks) (fun b o e => Heap.get?_push_of_some _ e) (Nat.le_of_eq hD) ⟨Nat.zero_le _, [], 0, .nil, ?_⟩
    rw [← hD]
    exact Heap.get?_push_size _ rfl
  have h3 : s3.heap = s2.heap.push { cls := .type "list", data := .seq ([] : List Value).toArray } := by rw [← hs3]
  have sz : ∀ b ∈ fp, b < s2.heap.objs.size := fun b hb => by
    obtain ⟨o, e, _⟩ := T.obj _ _ st2 b hb
    exact Heap.lt_size e
  have f3 : ∀ b ∈ fp, FpOk X pins (upd H2 D (.lst [])) b ∧ b < s3.heap.objs.size := fun b hb => by
    have hlt := sz b hb
    refine ⟨⟨?_, (f2 b hb).2⟩, by rw [h3, Heap.size_push]; exact Nat.lt_succ_of_lt hlt⟩
    rw [upd_ne (by rw [← hD]; exact Nat.ne_of_lt hlt)]
    exact (f2 b hb).1
  have st3 : tn 0 s3.heap := T.keep _ _ _ st2 fun b _ o e => by rw [h3]; exact Heap.get?_push_of_some _ e
  have I4 := block_start I3 ok hN f3
  have pg := hg s3 (upd H2 D (.lst [])) s3.heap.objs.size (cellsFrom (s3.heap.objs.size + 1) scope.names (cloFrom X.env.cells scope.names [])) fp
  have pt := ht s3 (upd H2 D (.lst [])) s3.heap.objs.size (cellsFrom (s3.heap.objs.size + 1) scope.names (cloFrom X.env.cells scope.names [])) fp
  have pe := he s3 (upd H2 D (.lst [])) s3.heap.objs.size (cellsFrom (s3.heap.objs.size + 1) scope.names (cloFrom X.env.cells scope.names [])) fp I3 fun b hb x c ec => (f3 b hb).1.2.2.2.2.1 x c ec
  show codeAny _ _ (.compStart (.ListComp elt [⟨tg, iter, ifs, 0⟩] scope pos) 0 (.ref it) (.ref D) (compEnvC scope (cellsFrom (s3.heap.objs.size + 1) scope.names (cloFrom X.env.cells scope.names [])) s3.heap.objs.size X.env)) (compPost (model X.prog X.w) X.A X.xe use Qf (.ref D) s3.heap.objs.size) { s3 with heap := pushCells (s3.heap.push { cls := .type "dict", data := .dict #[] }) scope.names }
  have nfp : ∀ b ∈ fp, (upd H2 D (.lst [])) b = none := fun b hb => (f3 b hb).1.1
  generalize hce : compEnvC scope (cellsFrom (s3.heap.objs.size + 1) scope.names (cloFrom X.env.cells scope.names [])) s3.heap.objs.size X.env = ce at I4 pg pt pe ⊢
  have cL : ce.locals = s3.heap.objs.size := by subst hce; rfl
  generalize hH3 : upd H2 D (.lst []) = H3 at I3 I4 pg pt pe w0 nfp f3
  generalize hs4 : ({ s3 with heap := pushCells (s3.heap.push { cls := .type "dict", data := .dict #[] }) scope.names } : Shared) = s4 at I4 ⊢
  have st4 : tn 0 s4.heap := T.keep _ _ _ st3 fun b _ o e => by rw [← hs4]; exact pushCells_keeps _ _ _ _ (Heap.get?_push_of_some _ e)
  have stat : ∀ {σ' : L2.St} {H' : Hp} {s' : Shared}, Inv (X.blk s3 H3 scope ce fp) [] σ' H' s' → (∀ b ∈ fp, H' b = none) → ∀ b ∈ fp, FpOk (X.blk s3 H3 scope ce fp) [] H' b := fun {σ' H' s'} I' hn b hb =>
    ⟨hn b hb, (I'.ok.exf b hb).1, I'.ok.exfs b hb, .inl hb, fun x c e => (I'.ok.exf b hb).2 x c e, fun p hp => absurd (show p ∈ ([] : List (Addr × Obj)) ++ [] from hp) (by simp)⟩
  have loop : codeAny (model X.prog X.w) X.A (.compLoop (.ListComp elt [⟨tg, iter, ifs, 0⟩] scope pos) 0 (.ref it) (.ref D) ce) (compPost (model X.prog X.w) X.A X.xe use Qf (.ref D) s3.heap.objs.size) s4 := by
    refine compLoop_any (fun n s' => ∃ i H', Inv (X.blk s3 H3 scope ce fp) [] (wipe σ (own.map (·.2))) H' s' ∧ tn i s'.heap ∧ (∀ b ∈ fp, H' b = none) ∧ W i n H') ?_ m0 ⟨0, H3, I4, st4, nfp, w0⟩
    rintro n s5 ⟨i, H5, I5, st5, n5, w5⟩
    rcases turn i n H5 w5 with ⟨stop, qq⟩ | ⟨go, Nx, hNx, step⟩
    · have td := T.done (X.blk s3 H3 scope ce fp) rfl rfl rfl hc i [] s5 _ H5 (fun _ _ => False) I5 (stat I5 n5) st5 stop
      refine thnF td fun r s6 ⟨hr, I6⟩ => ?_
      subst hr
      have I7 : Inv X pins σ H5 s6 := I3.call' (ch := fp) I6.os I6.base I6.hok I6.bare fun b hb => ⟨(f3 b hb).1.2.2.2.1, (f3 b hb).1.2.1, (f3 b hb).1.2.2.2.2.1, (f3 b hb).1.2.2.2.2.2⟩
      have nC : H5 s3.heap.objs.size = none := by
        have z : H5 ce.locals = none := I6.free
        rw [cL] at z
        exact z
      obtain ⟨m, hn, _⟩ := I6.loc
      have hn : s6.heap.Ns ce.locals m := hn
      rw [cL] at hn
      exact hRR D s3.heap.objs.size s6 m H5 I7 qq hn (I3.fpOk (Nat.le_refl _) nC)
    · have ti := T.item (X.blk s3 H3 scope ce fp) rfl rfl rfl hc i [] s5 _ H5 (fun _ _ => False) I5 (stat I5 n5) st5 go
      refine thnF ti fun r s6 ⟨u, hr, h6⟩ => ?_
      subst hr
      refine thnF h6 fun _ s7 ⟨x, H7, I7, r7, y7, st7, n7⟩ => ?_
      have I7' := I7.pinned (stat I7 n7) (T.obj _ _ st7)
      refine thnF (pg.run _ s7 _ H7 x u _ I7' r7 (step x H7 y7)) fun _ s8 ⟨σ8, H8, I8, hw8, q8⟩ => ?_
      refine thnF (pt.run _ s8 σ8 H8 _ I8 q8) fun b s9 ⟨H9, I9, q9⟩ => ?_
      have fin : ∀ {s' : Shared} {H' : Hp}, Inv (X.blk s3 H3 scope ce fp) ([] ++ pinsAt fp s7.heap) σ8 H' s' → Nx H' → ∃ m, m < n ∧ ∃ i H', Inv (X.blk s3 H3 scope ce fp) [] (wipe σ (own.map (·.2))) H' s' ∧ tn i s'.heap ∧ (∀ b ∈ fp, H' b = none) ∧ W i m H' := fun {s' H'} I' nx => by
        obtain ⟨m', hm, w'⟩ := hNx H' nx
        have pin' : ∀ b ∈ fp, ∀ o, s7.heap.get? b = some o → s'.heap.get? b = some o ∧ H' b = none := fun b hb o e =>
          let z := I'.pin (b, o) (List.mem_append_right _ (List.mem_append_right _ (mem_pinsAt hb e)))
          ⟨z.1, z.2.1⟩
        have hl : (wipe σ (own.map (·.2))).length = σ8.length := by rw [← hw8, wipe_length]
        refine ⟨m', hm, i + 1, H', (I'.unpinned (pins := [])).weak hl (fun j v e => ?_), T.keep _ _ _ st7 fun b hb o e => (pin' b hb o e).1, fun b hb => ?_, w'⟩
        · rw [← hw8] at e
          exact (wipe_some e).1
        · obtain ⟨o, e, _⟩ := T.obj _ _ st7 b hb
          exact (pin' b hb o e).2
      cases b with
      | false =>
        simp only [Bool.false_eq_true, if_false] at q9 ⊢
        exact fin I9 q9
      | true =>
        simp only [if_true] at q9 ⊢
        refine thnF (pe.run _ s9 σ8 H9 _ I9 q9) fun z s10 ⟨yv, H10, I10, r10, acc, hD10, hz10, nx⟩ => ?_
        exact app_ok (X := X.blk s3 H3 scope ce fp) I10 hD10 hz10 r10 fun s11 I11 => fin I11 nx
  exact codeAny_compStart_list loop (T.self X.A 0 _ _ _ st4 loop)
theorem pe_lcI {elt tg iter : Expr} {ifs : List Expr} {scope : Scope} {own : List (Str × Nat)} {pos : Pos} {wi : TI} {g : TG} {tt : TT} {te : L2.St → TE} (hc : X.calm = true) (hN : X.N.Nodup) (hi : PI X tg iter wi) (ok : BlkOk X.N X.env.scope scope own)
    (hg : ∀ (s : Shared) (H : Hp) (C : Addr) (cl : List (Str × Addr)) (fp : List Addr), PG (X.blk s H scope (compEnvC scope cl C X.env) fp) tg g) (ht : ∀ (s : Shared) (H : Hp) (C : Addr) (cl : List (Str × Addr)) (fp : List Addr), PTs (X.blk s H scope (compEnvC scope cl C X.env) fp) ifs tt)
    (he : ∀ (σ : L2.St) (pins : List (Addr × Obj)) (s : Shared) (H : Hp) (C : Addr) (cl : List (Str × Addr)) (fp : List Addr), Inv X pins σ H s → (∀ b ∈ fp, ∀ x c, X.env.cells.lookup x = some c → c ≠ b) → PE (X.blk s H scope (compEnvC scope cl C X.env) fp) elt (te σ)) (hs : ∀ x, foldedSetIterable iter X.env x = pure x := by intro _; rfl) :
    PE X (.ListComp elt [⟨tg, iter, ifs, 0⟩] scope pos) (fun σ H Q => tLc wi g tt (te σ) (own.map (·.2)) σ H Q) := by
  refine ⟨fun pins s σ H Q I h => ?_⟩
  rw [eval_ListComp]
  refine lc_coreI hc hN I hi ok hg ht (he σ pins) hs h fun D C s' m H' I' q hn f => ⟨m, hn, fun h'' sb => ?_⟩
  obtain ⟨f0, f1, f2, f3, f4, f5⟩ := f
  exact ⟨.ref D, H', I'.turned (t' := s'.toks) (fun b o hb e => (sb.2 b hb).trans e) f0 f1 f3 f4 f5, rfl, q⟩
end
end LmB
set_option Elab.async false
set_option linter.all false
set_option maxRecDepth 100000
set_option maxHeartbeats 8000000
set_option autoImplicit false
/-! isinstance of the handled exception, its dict known -/
namespace K9
open PySem PySem.Spec PyProof.Rows L2 Cm Tx Tk ErV
/-- isinstance(e, c), e handled, with or without a dict that is told -/
def rIsD (K : PySem.W.Frag) (D a : Addr) (d : Option Addr) : List V → Hp → VK → Prop := fun xs H Q => ∃ (c : V) (cv : Value) (b : Bool), xs = [.ref a, c] ∧ (∀ dx, d = some dx → ∃ fs, H dx = some (.xd fs)) ∧ (∀ u, RelV c u → u = cv) ∧ PySem.W.kitOne K (.ref D) cv = some b ∧ Q (.bl b) H
theorem call_isD {X : Cx} {a D : Addr} {d : Option Addr} {oe : Obj} {pn : List (Addr × Obj)} (C : ExcC X.K D) (hz : Zc (.ref D) d oe) (hf : ∃ vs, oe.data = .fields vs) : CallR (X.suite a ((a, oe) :: pn)) (.builtin "isinstance") (rIsD X.K D a d) := by
  cases d with
  | none =>
    intro pins s σ H xs us Q I r h
    obtain ⟨c, cv, b, e1, _, e2, e3, q⟩ := h
    exact call_isE C hz hf pins s σ H xs us Q I r ⟨c, cv, b, e1, e2, e3, q⟩
  | some dx =>
    intro pins s σ H xs us Q I r h
    obtain ⟨c, cv, b, rfl, hd, hcv, e, q⟩ := h
    obtain ⟨fs, hdx⟩ := hd dx rfl
    obtain ⟨u1, u2, rfl, r1, r2⟩ := vals2 r
    cases (show u1 = Value.ref a from r1)
    have ec := hcv _ r2
    subst ec
    obtain ⟨hget, _⟩ := I.pin (a, oe) (List.mem_append.mpr (.inl List.mem_cons_self))
    obtain ⟨vs, hv⟩ := hf
    obtain ⟨mA, hns, rel⟩ := (show ObjOk X.prog X.w H s.heap dx (.xd fs) from I.hok dx _ hdx)
    obtain ⟨od, ho, hlk⟩ := lookIn_ns hns
    obtain ⟨oc, odd, oda, osl⟩ := oe
    obtain ⟨h1, h2⟩ := hz
    dsimp only at h1 h2 hv
    subst h1 h2 hv
    have hcl : (PySem.W.clsIn X.K D).isSome = true := by
      obtain ⟨cd, hc, _⟩ := PySem.W.any_some C.hd
      rw [hc]
      rfl
    exact PySem.W.kia_one (PySem.W.kitx_exc (od := some od) hcl C.hg C.hk C.hs C.ha C.hn C.ht C.hm) I.kIn ⟨hget, rfl, rfl, ho⟩ e (fun z => nomatch z) fun tk => ⟨.bl b, H, I.kept (t' := tk) fun _ _ z => z, rfl, q⟩
end K9
set_option Elab.async false
set_option linter.all false
set_option maxRecDepth 100000
set_option maxHeartbeats 8000000
set_option autoImplicit false
/-! _law_refused -/
namespace K9
open PySem PySem.Spec PyProof.Rows L2 Cm Tx Tk ErV LmB NdefX LamX
abbrev nRe : List Str := ["_law_ask", "_law_found", "e"]
theorem scRe : FnScope nRe ["_law_ask"] (defScope sRefused) := ⟨rfl, rfl, rfl, by decide +kernel, rfl, by decide +kernel, by decide +kernel⟩
/-- the two errors, as they are caught and asked -/
structure E9 (K : PySem.W.Frag) (mg : Str → Option Value) (CMo CD CN : Addr) : Prop where
  gM : mg "MountError" = some (.ref CMo)
  gD : mg "NoDeed" = some (.ref CD)
  gN : mg "NoText" = some (.ref CN)
  xD : ExcC K CD
  xN : ExcC K CN
  mD : PySem.W.exmOne K (.ref CD) (.ref CMo) = some true
  mN : PySem.W.exmOne K (.ref CN) (.ref CMo) = some true
  dd : PySem.W.kitOne K (.ref CD) (.ref CD) = some true
  dn : PySem.W.kitOne K (.ref CD) (.ref CN) = some false
  nd : PySem.W.kitOne K (.ref CN) (.ref CD) = some false
  nn : PySem.W.kitOne K (.ref CN) (.ref CN) = some true
def TTr (CD CN : Addr) : TTp := fun sp H Q => ∀ (Q2 : VK) (E2 : XK), (∀ v H', Q (.str "none") H' → Q2 v H') → (∀ H', (∀ H'', Same H' H'' → Q (.str "deed") H'') → E2 (.ref CD) none H') → (∀ d fs H', H' d = some (.xd fs) → (∀ H'', Same H' H'' → Q (.str "text") H'') → E2 (.ref CN) (some d) H') → sp H Q2 E2
section
variable {P : Program} {w : World} {K : PySem.W.Frag} {mg : Str → Option Value} {base : Heap} {CMo CD CN : Addr}
/-- isinstance(e, nm), e the handled exception in slot i -/
def tIsI (K : PySem.W.Frag) (i : Nat) (a C : Addr) (cls : Value) (d : Option Addr) : TE := fun σ H Q => ∃ D b, cls = .ref D ∧ (∀ dx, d = some dx → ∃ fs, H dx = some (.xd fs)) ∧ ExcC K D ∧ PySem.W.kitOne K (.ref D) (.ref C) = some b ∧ σ[i]? = some (some (.ref a)) ∧ Q (.bl b) H
theorem pe_isI {X : Cx} {a C : Addr} {oe : Obj} {cls : Value} {d : Option Addr} {pn : List (Addr × Obj)} {nm : Str} {p3 p4 p5 p6 : Pos} {i : Nat} (hz : Zc cls d oe) (hf : ∃ vs, oe.data = .fields vs) (hv : PE (X.suite a ((a, oe) :: pn)) (.Name "e" p4) (tVar i)) (gS : Gl (X.suite a ((a, oe) :: pn)) "isinstance") (gC : Gl (X.suite a ((a, oe) :: pn)) nm) (mS : X.mg "isinstance" = none) (mC : X.mg nm = some (.ref C)) (hd : (nm == ("__debug__" : Str)) = false := by decide) (hK : X.K = K := by rfl) :
    PE (X.suite a ((a, oe) :: pn)) (.Call (.Name "isinstance" p3) [.Name "e" p4, .Name nm p5] [] p6) (tIsI K i a C cls d) := by
  subst hK
  constructor
  intro pins s σ H Q I h
  obtain ⟨D, b, rfl, hdx, xc, k, ei, q⟩ := h
  exact (pe_callB (call_isD xc hz hf) gS mS PyProof.Rows.boot_isinstance (pa_cons hv (pa_cons (pe_glob (v := .ref C) gC mC rfl hd) pa_nil))).run pins s σ H Q I ⟨_, ei, .ref C, .ref C, b, rfl, hdx, fun u r => r, k, q⟩
/-- the handler's statement -/
def hbS : Stmt := match (defBody sRefused).getD 1 (.Pass ⟨0, 0, 0, 0⟩) with
  | .Try _ [.ExceptHandler _ _ (b :: _) _] _ _ _ => b
  | _ => .Pass ⟨0, 0, 0, 0⟩
def words3 : List Str := ["deed", "text", "other"]
theorem ixK {X : Cx} {K : PySem.W.Frag} (h : X.K = K) : IxR X (rIxL K) := h ▸ ix_list
/-- [a, b, True].index(True) -/
def tIdx (K : PySem.W.Frag) (ta tb : TE) : TE := tBM K "list" (rIndexD K) (tLst (tCons ta (tCons tb (tCons (tC (.bl true)) tNil)))) (tCons (tC (.bl true)) tNil)
theorem pe_idx {X : Cx} {ea eb : Expr} {ta tb : TE} {j1 j2 : Nat} {p1 p2 p3 p4 p5 : Pos} (hu : X.A.units + 65 < cLine) (ha : PE X ea ta) (hb : PE X eb tb)
    (hs1 : starEach [ea, eb, .Constant (.bool true) j1 p1] X.env = (false, eval ea X.env) :: starEach [eb, .Constant (.bool true) j1 p1] X.env := by rfl) (hs2 : starEach [eb, .Constant (.bool true) j1 p1] X.env = (false, eval eb X.env) :: starEach [.Constant (.bool true) j1 p1] X.env := by rfl)
    (hline : (p3.endLine == p5.line) = true := by rfl) (hK : X.K = K := by rfl) : PE X (.Call (.Attribute (.List [ea, eb, .Constant (.bool true) j1 p1] p2) "index" p3) [.Constant (.bool true) j2 p4] [] p5) (tIdx K ta tb) := by
  subst hK
  exact pe_bm PySem.F.plainAttrs_list PySem.F.slot_list_index PySem.F.type_list_index (mt_indexD hu) (pe_lst (pa_cons ha (pa_cons hb (pa_cons pe_bl pa_nil) (hs := hs2)) (hs := hs1))) (pa_cons pe_bl pa_nil) (hline := hline)
def wordR (b1 b2 : Bool) : Str := if b1 = true then "deed" else if b2 = true then "text" else "other"
theorem hHb {g : Addr} {cd : Value} {A : Around} {outer : List Env} {s : Shared} {H0 : Hp} {E : XK} (e : E9 K mg CMo CD CN) (B' : Bi mg) (hu : ∀ {a : Addr} {pn : List (Addr × Obj)}, ((cxOf CX0 P w K mg base nRe "_law_refused" (defScope sRefused) g cd A outer s H0 E).nox.suite a pn).A.units + 65 < cLine) :
    ∃ ts : Addr → Value → Option Addr → TS, (∀ (a : Addr) (oe : Obj) (cls : Value) (d : Option Addr) (pn : List (Addr × Obj)), Zc cls d oe → (∃ vs, oe.data = .fields vs) → PSs ((cxOf CX0 P w K mg base nRe "_law_refused" (defScope sRefused) g cd A outer s H0 E).nox.suite a ((a, oe) :: pn)) [hbS] (ts a cls d)) ∧
      ∀ (a C : Addr) (d : Option Addr) (b1 b2 : Bool) (D : Ends) σ H, ExcC K C → (∀ dx, d = some dx → ∃ fs, H dx = some (.xd fs)) → PySem.W.kitOne K (.ref C) (.ref CD) = some b1 → PySem.W.kitOne K (.ref C) (.ref CN) = some b2 → σ[2]? = some (some (.ref a)) → (∀ H', Same H H' → D.nx (σ.set 1 (some (.str (wordR b1 b2)))) H') → ts a (.ref C) d D σ H := by
  refine ⟨_, fun a oe cls d pn hz hf => (pss_one (ps_set (i := 1) scRe.nd rfl (.inl rfl) (pe_ix (ixK (K := K) rfl) (pe_op op_cat (pe_lst (pa_cons pe_str (pa_cons pe_str pa_nil))) (pe_lst (pa_cons pe_str pa_nil)))
          (pe_idx hu (pe_isI (i := 2) hz hf (pv 2) (by rfl) (by rfl) B'.isin e.gD (by decide +kernel)) (pe_isI (i := 2) hz hf (pv 2) (by rfl) (by rfl) B'.isin e.gN (by decide +kernel))) (fun _ _ => rfl))) : PSs _ [hbS] _), ?_⟩
  intro a C d b1 b2 D σ H xc hd k1 k2 ha q
  refine ⟨(by show 2 ≤ sizeLine; decide), fun p1 h1 => ⟨(by show 1 ≤ sizeLine; decide), fun p2 h2 => ?_⟩⟩
  have s1 := same_new (o := HO.lst [V.str "deed", .str "text"]) h1
  have s2 := same_new (o := HO.lst [V.str "other"]) h2
  refine ⟨p1, p2, _, _, rfl, rfl, s2 _ _ upd_same, upd_same, (by show 2 + 1 ≤ sizeLine; decide), fun p3 h3 => ?_⟩
  have s3 := same_new (o := HO.lst ([V.str "deed", .str "text"] ++ [V.str "other"])) h3
  have s13 := (s1.trans s2).trans s3
  have g3 : upd (upd (upd H p1 (.lst [V.str "deed", .str "text"])) p2 (.lst [V.str "other"])) p3 (.lst ([V.str "deed", .str "text"] ++ [V.str "other"])) p3 = some (.lst ([V.str "deed", .str "text"] ++ [V.str "other"])) := upd_same
  generalize upd (upd (upd H p1 (.lst [V.str "deed", .str "text"])) p2 (.lst [V.str "other"])) p3 (.lst ([V.str "deed", .str "text"] ++ [V.str "other"])) = H3 at s13 g3 ⊢
  have hd3 : ∀ dx, d = some dx → ∃ fs, H3 dx = some (.xd fs) := fun dx e => by
    obtain ⟨fs, h⟩ := hd dx e
    exact ⟨fs, s13 _ _ h⟩
  refine ⟨C, b1, rfl, hd3, xc, k1, ha, C, b2, rfl, hd3, xc, k2, ha, (by show 3 ≤ sizeLine; decide), fun p4 h4 => ?_⟩
  have s4 := same_new (o := HO.lst [V.bl b1, .bl b2, .bl true]) h4
  refine ⟨.inl ⟨rfl, _, SqL.of upd_same⟩, p4, .bl true, .bool true, [.bool b1, .bool b2, .bool true], if b1 = true then 0 else if b2 = true then 1 else 2, .bool true, rfl, rfl, .lst (SqL.of upd_same) (.cons (.bl _) (.cons (.bl _) (.cons (.bl _) .nil))), .bl true, ?_, by decide +kernel, ?_, by decide +kernel, ?_, ?_⟩
  · cases b1 <;> cases b2 <;> decide +kernel
  · cases b1 <;> cases b2 <;> rfl
  · intro m z' hm hz
    cases b1 <;> cases b2 <;> simp at hm
    · match m, hm, hz with
      | 0, _, hz => cases hz; decide +kernel
      | 1, _, hz => cases hz; decide +kernel
    · match m, hm, hz with
      | 0, _, hz => cases hz; decide +kernel
  · refine ⟨p3, _, _, .str (wordR b1 b2), rfl, rfl, SqL.of (s4 _ _ g3), atI_nat ?_, q _ (s13.trans s4)⟩
    cases b1 <;> cases b2 <;> rfl
abbrev bodyRe : List Stmt := defBody sRefused
theorem gok_refused {g : Addr} {fd : FuncData} {k : Nat} (F : Fun K "_law_refused" "_law_refused" sRefused g fd) (b : Binds K fd ["_law_ask"] []) (hm : mg "_law_refused" = some (.ref g)) (B' : Bi mg) (e : E9 K mg CMo CD CN) : GOk P w K mg base k (k + 2) "_law_refused" (TTr CD CN) := by
  refine ⟨g, hm, F.kp, fun A outer s H f Fn body fr ws sp Q E hr e0 hf hc CA nf L tt => ?_⟩
  obtain ⟨oc, od, kV, dc, pm, an, cd, ct, sl, e12, lk, hcd⟩ := id F.ex
  subst e12
  have KX : K.In s.heap := e0.mod.kin.keeps fun b o e => (e0.bs b o e).1
  refine run_ofS (N := nRe) (ps := ["_law_ask"]) (us := [.ref f]) (vs := [.ref f]) lk hcd scRe hr e0 (b s [.ref f] KX rfl) (.cons rfl .nil) rfl fun hr' => ?_
  obtain ⟨ts, hts, hq⟩ := hHb (P := P) (w := w) (base := base) (g := g) (cd := cd) (A := A) (outer := outer) (s := s) (H0 := H) (E := E) e B' (by
    intro a pn
    have z : A.units + 3 + 16 * (k + 1) + 200 < cLine := hr'.un
    show A.units + 3 + 65 < cLine
    omega)
  refine ⟨_, PSs.nox (X := cxOf CX0 P w K mg base nRe "_law_refused" (defScope sRefused) g cd A outer s H E) (pss_cons (ps_set (i := 1) scRe.nd rfl (.inl rfl) pe_str) (pss_cons
      (ps_try_as (i := 2) rfl rfl scRe.nd rfl rfl ⟨rfl, by decide, .inl e.gM⟩ L2.takes0 (fun W pn xe tk _ => pss_one (ps_expr (pe_act3 (i := 0) (E := WE W) L CA nf (fun _ _ _ => by simp [cxOf]) (hr'.mono (by omega)) (fun σ => passAt tk σ) rfl (.inl rfl))))
        (fun a oe cls d pn hz hf => hts a oe cls d pn hz hf))
      (pss_one (ps_ret (pv 1))))), ?_⟩
  refine ⟨rfl, hf, hc, tt _ _ (fun v H' h => ⟨_, rfl, h⟩) (fun H' h => ?_) (fun d fs H' hd h => ?_)⟩
  · refine ⟨true, e.mD, fun _ a1 ha1 => ?_, fun z => Bool.noConfusion z⟩
    exact hq a1 CD none true false _ _ _ e.xD (fun dx z => nomatch z) e.dd e.dn rfl fun H'' s'' => ⟨_, rfl, h H'' s''⟩
  · refine ⟨true, e.mN, fun _ a1 ha1 => ?_, fun z => Bool.noConfusion z⟩
    exact hq a1 CN (some d) false true _ _ _ e.xN (fun dx z => ⟨fs, by cases z; exact hd⟩) e.nd e.nn rfl fun H'' s'' => ⟨_, rfl, h H'' s''⟩
end
end K9
set_option Elab.async false
set_option linter.all false
set_option maxRecDepth 100000
set_option maxHeartbeats 8000000
set_option autoImplicit false
/-! repr; what the law's loop asks of a deed that fits -/
namespace K9
open PySem PySem.Spec PyProof.Rows L2 Cm Tx Tk ErV
/-- repr of nested data, where nothing that shows runs around -/
theorem call_reprD {X : Cx} (hg : X.A.guards = some []) (hu : X.A.units + 65 < cLine) : CallR X (.builtin "repr") (fun xs H Q => ∃ (v : V) (d : PyData), xs = [v] ∧ (∃ a, v = .ref a) ∧ Dp X.K H v d ∧ d.showable = true ∧ d.hasDict = false ∧ d.depth ≤ 63 ∧ d.shown.length ≤ sizeLine ∧ Q (.str d.shown) H) := by
  intro pins s σ H xs us Q I r h
  obtain ⟨v, d, rfl, ⟨a, rfl⟩, hd, h1, h2, h3, h4, q⟩ := h
  obtain ⟨u, rfl, ru⟩ := vals1 r
  cases (show u = Value.ref a from ru)
  obtain ⟨as, rd⟩ := Dp.reads I d (.ref a) (.ref a) hd rfl
  exact PySem.repr_of_reads' rd h1 (PyData.noDict_hsm h2) hg (by omega) (fun _ _ e => e) (fun h' u tk k => ⟨.str d.shown, H, I.kept (t' := tk) k, ⟨_, rfl⟩, q⟩) h4
def dE : EV → PyData
  | .str z => .str z
  | .int i => .int i
  | .bl b => .bool b
  | .oth => .none
theorem dp_all {K : PySem.W.Frag} {H : Hp} : ∀ es : List EV, DpAll K H (es.map evV) (es.map dE)
  | [] => .nil
  | .str z :: r => .cons (.str z) (dp_all r)
  | .int i :: r => .cons (.int i) (dp_all r)
  | .bl b :: r => .cons (.bl b) (dp_all r)
  | .oth :: r => .cons .non (dp_all r)
theorem dp_tup {K : PySem.W.Frag} {H : Hp} {a : Addr} {es : List EV} (h : H a = some (.tup (es.map evV))) : Dp K H (.ref a) (.tuple (es.map dE)) := .tup (SqT.of h) (dp_all es)
/-- few and short -/
def SmE : EV → Prop
  | .str z => (∀ c ∈ z.cps.toList, c < 0x110000) ∧ z.length ≤ 100
  | .int i => i.natAbs.log2 < 1920 ∧ (iS i).length ≤ 100
  | _ => True
theorem sm_show {e : EV} (h : SmE e) : (dE e).showable = true ∧ (dE e).leavesShort 100 = true ∧ (dE e).weight ≤ 2000 ∧ (dE e).hasDict = false ∧ (dE e).depth = 0 := by
  cases e with
  | str z => exact ⟨rfl, by simp only [dE, PyData.leavesShort]; exact List.all_eq_true.mpr fun c hc => decide_eq_true (Nat.lt_trans (h.1 c hc) (by decide)), by have := h.2; show z.cps.size ≤ 2000; have e : z.length = z.cps.size := rfl; omega, rfl, rfl⟩
  | int i =>
    refine ⟨by simpa [dE, PyData.showable] using h.1, by simp only [dE, PyData.leavesShort, PyData.shown]; exact decide_eq_true h.2, ?_, rfl, rfl⟩
    have := h.1
    simp only [dE, PyData.weight]
    split <;> omega
  | bl b => exact ⟨rfl, rfl, Nat.zero_le _, rfl, rfl⟩
  | oth => exact ⟨rfl, rfl, Nat.zero_le _, rfl, rfl⟩
theorem sm_all : ∀ {es : List EV}, (∀ e ∈ es, SmE e) → PyData.showableAll (es.map dE) = true ∧ PyData.leavesShortAll 100 (es.map dE) = true ∧ PyData.weightAll (es.map dE) ≤ 2001 * es.length ∧ PyData.hasDictAll (es.map dE) = false ∧ PyData.depthAll (es.map dE) = 0
  | [], _ => ⟨rfl, rfl, Nat.zero_le _, rfl, rfl⟩
  | e :: r, h => by
    obtain ⟨a1, a2, a3, a4, a5⟩ := sm_show (h e List.mem_cons_self)
    obtain ⟨b1, b2, b3, b4, b5⟩ := sm_all fun x hx => h x (List.mem_cons_of_mem e hx)
    refine ⟨?_, ?_, ?_, ?_, ?_⟩
    · simp only [List.map_cons, PyData.showableAll, a1, b1, Bool.and_self]
    · simp only [List.map_cons, PyData.leavesShortAll, a2, b2, Bool.and_self]
    · simp only [List.map_cons, PyData.weightAll, List.length_cons]
      omega
    · simp only [List.map_cons, PyData.hasDictAll, a4, b4, Bool.or_self]
    · simp only [List.map_cons, PyData.depthAll, a5, b5]
      rfl
theorem sm_tup {es : List EV} (h : ∀ e ∈ es, SmE e) (hl : es.length ≤ 10) : (PyData.tuple (es.map dE)).showable = true ∧ (PyData.tuple (es.map dE)).hasDict = false ∧ (PyData.tuple (es.map dE)).depth ≤ 63 ∧ (PyData.tuple (es.map dE)).shown.length ≤ sizeLine := by
  obtain ⟨b1, b2, b3, b4, b5⟩ := sm_all h
  refine ⟨by simpa only [PyData.showable] using b1, by simpa only [PyData.hasDict] using b4, by simp only [PyData.depth, b5]; decide, ?_⟩
  have := PyData.shown_le 100 (by decide) (.tuple (es.map dE)) (by simpa only [PyData.leavesShort] using b2)
  have e : (PyData.tuple (es.map dE)).weight = PyData.weightAll (es.map dE) := by simp only [PyData.weight]
  rw [e] at this
  exact Nat.le_trans this (Nat.le_trans (show _ ≤ 102 * (2001 * 10) + 100 by omega) (by decide))
theorem sm_shape {es : List EV} (h : ∀ e ∈ es, SmE e) : SeqAt.shaped (.tuple (es.map dE)) = true := by
  obtain ⟨b1, b2, b3, b4, b5⟩ := sm_all h
  have c : ∀ es : List EV, (∀ e ∈ es, SmE e) → PyData.canLayAll0 (es.map dE) = true := fun es => by
    induction es with
    | nil => intro _; rfl
    | cons e r ih =>
      intro h
      have ih := ih fun x hx => h x (List.mem_cons_of_mem e hx)
      have he := h e List.mem_cons_self
      cases e with
      | str z =>
        have : PyData.strOk z = true := by
          unfold PyData.strOk
          rw [← Array.all_toList]
          exact List.all_eq_true.mpr fun c hc => decide_eq_true (he.1 c hc)
        simp [dE, PyData.canLayAll0, PyData.canLay0, ih, this]
      | _ => simp [dE, PyData.canLayAll0, PyData.canLay0, ih]
  unfold SeqAt.shaped
  rw [Bool.and_eq_true]
  exact ⟨by simpa only [PyData.canLay0] using c es h, by simp only [PyData.depth, b5]; decide⟩
/-! ### a deed that fits -/
section
variable {p : Str × List Str} (h : p ∈ formsL) {es : List EV} (hf : Paired Fits es p.2)
include h hf
theorem fit_e {e : EV} (he : e ∈ es) : ∃ s, FitsOk e s ∧ SmE e := by
  obtain ⟨i, hi⟩ := List.mem_iff_getElem?.mp he
  have lf := Paired.length hf
  have hlt : i < p.2.length := by
    have := (List.getElem?_eq_some_iff.mp hi).1
    omega
  have f := pd_fit hf hi (List.getElem?_eq_getElem hlt)
  have o := fits_ok f
  refine ⟨_, o, ?_⟩
  cases e with
  | str z => exact ⟨fun c hc => Nat.lt_of_lt_of_le (asc_lt (show asc z = true from o.asc) c hc) (by decide), o.len⟩
  | int i => exact ⟨o.eok, o.len⟩
  | bl b => trivial
  | oth => trivial
theorem sm_deed : ∀ e ∈ EV.str p.1 :: es, SmE e := fun e he => by
  rcases List.mem_cons.mp he with rfl | he
  · have z : ∀ p ∈ formsL, (p.1.cps.toList.all fun c => decide (c < 128)) = true ∧ p.1.length ≤ 100 := by decide +kernel
    obtain ⟨z1, z2⟩ := z p h
    exact ⟨fun c hc => Nat.lt_of_lt_of_le (of_decide_eq_true (List.all_eq_true.mp z1 c hc)) (by decide), z2⟩
  · exact (fit_e h hf he).choose_spec.2
theorem es_ok : EsOk es := ⟨by have := (p3 h hf).1; have := Paired.length hf; omega, fun e he => by
  obtain ⟨s, o, _⟩ := fit_e h hf he
  exact ⟨o.eok, Nat.le_trans o.len (by decide)⟩⟩
theorem es_sp : ∃ i r, es = .int i :: r ∧ i ∈ areas ∧ ∃ fr : List Str, p.2 = ("space" : Str) :: fr ∧ Paired Fits r fr := by
  have h0 := (form_facts p h).2.2.1
  cases hp : p.2 with
  | nil =>
    rw [hp] at h0
    cases h0
  | cons s fr =>
    rw [hp] at h0 hf
    cases h0
    cases hf with
    | cons a r =>
      cases a with
      | space i hi => exact ⟨i, _, rfl, hi, fr, rfl, r⟩
theorem fit_goodW : goodW p.1 es = true := by
  have hl := Paired.length hf
  have := read_good h hf
  unfold wordsOf9 at this
  rw [readW_form h, if_pos (by rw [List.length_map, hl]), ents_back hf] at this
  by_cases g : goodW p.1 es = true
  · exact g
  · rw [if_neg g] at this
    cases this
theorem fit_good : goodT (.tup (.str p.1 :: es)) = true := by
  have g := fit_goodW h hf
  unfold goodW at g
  rw [Bool.and_eq_true] at g
  rw [goodT_eq, g.1, g.2, Bool.true_and, Bool.true_and]
  obtain ⟨i, r, rfl, hi, _⟩ := es_sp h hf
  have a := areas_ok i hi
  unfold areaB at a
  simp only [Bool.and_eq_true] at a
  exact a.2.2.1
theorem dd_tv {H : Hp} {v : V} (d : DdAt H v p.1 es) : TvAt H v (.tup (.str p.1 :: es)) := by
  obtain ⟨a, rfl, ha⟩ := d
  have lf := Paired.length hf
  have hp3 := (p3 h hf).1
  refine tv_tup ha (paired_ev fun e he u hu => ?_) (by rw [List.length_cons]; omega) fun z hz => ?_
  · rcases List.mem_cons.mp he with rfl | he
    · cases hu
      exact (forms_name h).1
    · obtain ⟨s, o, _⟩ := fit_e h hf he
      subst hu
      exact Nat.le_trans o.len (by decide)
  · cases hz
    exact .inl (List.mem_map_of_mem h)
end
end K9
set_option Elab.async false
set_option linter.all false
set_option maxRecDepth 100000
set_option maxHeartbeats 8000000
set_option autoImplicit false
/-! the law: what stays, the lambdas -/
namespace K9
open PySem PySem.Spec PyProof.Rows L2 Cm Tx Tk ErV LmB NdefX LamX
def HoF {α : Type} (X : Cx) (sts : List Stmt) (p q : α → L2.St → Hp → Prop) : Prop := ∃ t, PSs X sts t ∧ ∀ (i : α) (D : Ends) σ H, p i σ H → (∀ σ' H', q i σ' H' → D.nx σ' H') → t D σ H
def HoO {α : Type} (X : Cx) (st : Stmt) (p q : α → L2.St → Hp → Prop) : Prop := ∃ t, PS X st t ∧ ∀ (i : α) (D : Ends) σ H, p i σ H → (∀ σ' H', q i σ' H' → D.nx σ' H') → t D σ H
theorem HoF.nil {α : Type} {X : Cx} {p : α → L2.St → Hp → Prop} : HoF X [] p p := ⟨_, pss_nil, fun i D σ H h q => q _ _ h⟩
theorem HoF.cons {α : Type} {X : Cx} {st : Stmt} {rest : List Stmt} {p q r : α → L2.St → Hp → Prop} (a : HoO X st p q) (b : HoF X rest q r) : HoF X (st :: rest) p r := by
  obtain ⟨t, ht, h1⟩ := a
  obtain ⟨u, hu, h2⟩ := b
  exact ⟨_, pss_cons ht hu, fun i D σ H hp hr => h1 i _ σ H hp fun σ' H' hq => h2 i D σ' H' hq hr⟩
/-! ### what stays where lambdas are made -/
def Fsh (H0 : Hp) (l : Addr) : Prop := ∀ o, H0 l = some o → ∃ ps, o = .tbl ps
theorem fsh_of {H0 H : Hp} {l : Addr} (e : ExtN H0 H) (h : H l = none) : Fsh H0 l := fun o ho => by
  by_cases z : ∃ ps, o = .tbl ps
  · exact z
  · have := e l o ho fun ps q => z ⟨ps, q⟩
    rw [h] at this
    cases this
theorem tabs_but {T : List (Addr × Str)} {H H' : Hp} {l : Addr} (t : Tabs T H) (S : StAt H l) (b : But l H H') : Tabs T H' := fun p hp => by
  obtain ⟨st, hl, _⟩ := S
  obtain ⟨ps, h1, h2, h3⟩ := t p hp
  refine ⟨ps, b _ _ (fun z => by rw [z, hl] at h1; cases h1) h1, h2, fun pos cv hc => ?_⟩
  obtain ⟨c, e1, e2⟩ := h3 pos cv hc
  refine ⟨c, e1, b _ _ (fun z => ?_) e2⟩
  rw [z, hl] at e2
  cases (show HO.lst st = HO.ext _ from Option.some.inj e2)
/-- the draws' list, and what stays since the start -/
structure Sv (T : List (Addr × Str)) (H0 : Hp) (l : Addr) (H : Hp) : Prop where
  st : StAt H l
  fs : Fsh H0 l
  ex : ExtN H0 H
  tb : Tabs T H
section
variable {T : List (Addr × Str)} {H0 H H' : Hp} {l : Addr}
theorem Sv.same (h : Sv T H0 l H) (s : Same H H') : Sv T H0 l H' := by
  obtain ⟨st, hl, ok⟩ := h.st
  exact ⟨⟨st, s _ _ hl, ok⟩, h.fs, h.ex.trans (ExtN.of s), h.tb.ext s⟩
theorem Sv.bs (h : Sv T H0 l H) (b : Bs H l H') : Sv T H0 l H' := by
  refine ⟨b.st, h.fs, fun c o hc n => b.but c o (fun z => ?_) (h.ex c o hc n), tabs_but h.tb h.st b.but⟩
  rw [z] at hc
  obtain ⟨ps, e⟩ := h.fs o hc
  exact n ps e
theorem Sv.ext (h : Sv T H0 l H) (e : ExtN H H') (t : Tabs T H') : Sv T H0 l H' := by
  obtain ⟨st, hl, ok⟩ := h.st
  exact ⟨⟨st, e _ _ hl (by intro _ z; cases z), ok⟩, h.fs, h.ex.trans e, t⟩
/-- objects that are no lists stay in draws -/
theorem tup_bs {a : Addr} {xs : List V} (S : StAt H l) (b : Bs H l H') (ha : H a = some (.tup xs)) : H' a = some (.tup xs) := by
  obtain ⟨st, hl, _⟩ := S
  refine b.but a _ (fun z => ?_) ha
  rw [z, hl] at ha
  cases ha
theorem tup_ext {a : Addr} {xs : List V} (e : ExtN H H') (ha : H a = some (.tup xs)) : H' a = some (.tup xs) := e _ _ ha (by intro _ z; cases z)
theorem DdAt.bs {v : V} {z : Str} {es : List EV} (d : DdAt H v z es) (S : StAt H l) (b : Bs H l H') : DdAt H' v z es := by
  obtain ⟨a, e, h⟩ := d
  exact ⟨a, e, tup_bs S b h⟩
theorem DdAt.ext {v : V} {z : Str} {es : List EV} (d : DdAt H v z es) (e : ExtN H H') : DdAt H' v z es := by
  obtain ⟨a, e', h⟩ := d
  exact ⟨a, e', tup_ext e h⟩
theorem oth_ext {v : V} (h : Oth H v) (s : ExtN H H') : Oth H' v := by
  rcases h with h | ⟨p, e, ⟨xs, h⟩ | ⟨xs, h⟩ | ⟨xs, h⟩⟩
  · exact .inl h
  · exact .inr ⟨p, e, .inl ⟨xs, s _ _ h (by intro _ z; cases z)⟩⟩
  · exact .inr ⟨p, e, .inr (.inl ⟨xs, s _ _ h (by intro _ z; cases z)⟩)⟩
  · exact .inr ⟨p, e, .inr (.inr ⟨xs, s _ _ h (by intro _ z; cases z)⟩)⟩
theorem ev_ext {v : V} {e : EV} (h : EvAt H v e) (s : ExtN H H') : EvAt H' v e := by
  cases e with
  | oth => exact oth_ext h s
  | _ => exact h
theorem pd_ext (s : ExtN H H') : ∀ {xs : List V} {es : List EV}, Paired (EvAt H) xs es → Paired (EvAt H') xs es
  | _, _, .nil => .nil
  | _, _, .cons a r => .cons (ev_ext a s) (pd_ext s r)
theorem tv_ext {v : V} {t : TV} (h : TvAt H v t) (s : ExtN H H') : TvAt H' v t := by
  cases t with
  | tup es =>
    obtain ⟨a, xs, e, ha, p, l, k⟩ := h
    exact ⟨a, xs, e, tup_ext s ha, pd_ext s p, l, k⟩
  | no =>
    rcases h with h | h | ⟨p, e, ⟨xs, h⟩ | ⟨xs, h⟩⟩ | h | h
    · exact .inl h
    · exact .inr (.inl h)
    · exact .inr (.inr (.inl ⟨p, e, .inl ⟨xs, s _ _ h (by intro _ z; cases z)⟩⟩))
    · exact .inr (.inr (.inl ⟨p, e, .inr ⟨xs, s _ _ h (by intro _ z; cases z)⟩⟩))
    · exact .inr (.inr (.inr (.inl h)))
    · exact .inr (.inr (.inr (.inr h)))
theorem NoW.ext {v : V} (h : NoW H v ()) (s : ExtN H H') : NoW H' v () := by
  obtain ⟨t, a, b⟩ := h
  exact ⟨t, tv_ext a s, b⟩
end
/-! ### the law's own text -/
abbrev nLw : List Str := ["_law_script", "_law_cell", "_law_state", "_law_turn", "_law_deed_here", "_law_text_here", "_law_wrong_here", "_law_much", "_law_far", "_law_near", "_law_other", "_law_odd"]
theorem scLw : FnScope nLw ["_law_script"] (defScope sLaw) := ⟨rfl, rfl, rfl, by decide +kernel, rfl, by decide +kernel, by decide +kernel⟩
abbrev XLw (P : Program) (w : World) (K : PySem.W.Frag) (mg : Str → Option Value) (base : Heap) (f c : Addr) (A : Around) (outer : List Env) (s : Shared) (H0 : Hp) (E : XK) : Cx := (cxOf CX0 P w K mg base nLw "law" (defScope sLaw) f (.ref c) A outer s H0 E).nox
abbrev sL (a : Addr) (s1 s2 s3 s4 s5 s6 s7 s8 s9 s10 s11 : Option V) : L2.St := [some (.ref a), s1, s2, s3, s4, s5, s6, s7, s8, s9, s10, s11]
def fBody : Stmt → List Stmt
  | .For _ _ b _ _ => b
  | _ => []
def st0 : Stmt := .Pass ⟨0, 0, 0, 0⟩
def stO (i : Nat) : Stmt := (fBody ((defBody sLaw).getD 0 st0)).getD i st0
def stA (i : Nat) : Stmt := (fBody (stO 1)).getD i st0
def stM (i : Nat) : Stmt := (fBody (stA 5)).getD i st0
def iTest : Stmt → Expr
  | .If t _ _ _ => t
  | _ => .Constant .none 0 ⟨0, 0, 0, 0⟩
/-- the lambda in a call's argument -/
def lamOf : Expr → Expr
  | .Compare (.Call _ [e] _ _) _ _ _ => e
  | .BoolOp _ (.Compare (.Call (.Name "_law_refused" _) [e] _ _) _ _ _ :: _) _ => e
  | .BoolOp _ [_, .Compare (.Call _ [e] _ _) _ _ _] _ => e
  | e => e
def lPar : Expr → Arguments
  | .Lambda a _ _ _ => a
  | _ => defArgs sLaw
def lBody : Expr → Expr
  | .Lambda _ b _ _ => b
  | e => e
def lScope : Expr → Scope
  | .Lambda _ _ s _ => s
  | _ => defScope sLaw
def e0 : Expr := lamOf (iTest (stA 4))
def e1 : Expr := lamOf (iTest (stM 1))
def e2 : Expr := lamOf (iTest (stM 2))
def e3 : Expr := lamOf (iTest (stA 7))
def e4 : Expr := lamOf (iTest ((fBody (stO 2)).getD 0 st0))
def e5 : Expr := lamOf (iTest ((fBody (stO 3)).getD 0 st0))
def lamQL : Str := (("law" : Str) ++ ".<locals>.") ++ "<lambda>"
structure LmT (base : Heap) (mg : Str → Option Value) (T : List (Addr × Str)) (c Pt : Addr) (q : Str) : Prop where
  tb : TabB base mg c Pt
  mem : (Pt, q) ∈ T
  uni : ∀ p ∈ T, p.1 = Pt → p.2 = q
end K9
set_option Elab.async false
set_option linter.all false
set_option maxRecDepth 100000
set_option maxHeartbeats 8000000
set_option autoImplicit false
/-! the lambdas of the law -/
namespace K9
open PySem PySem.Spec PyProof.Rows L2 Cm Tx Tk ErV LmB NdefX LamX
abbrev fr0 : List Str := ["_law_wrong_here"]
theorem ns0 : NScope fr0 [] fr0 (lScope e0) := nscope_by (by decide +kernel)
theorem lam0 : LamS (defScope sLaw) (lScope e0) := lamS_by (by decide +kernel)
abbrev fr1 : List Str := ["_law_far"]
theorem ns1 : NScope fr1 [] fr1 (lScope e1) := nscope_by (by decide +kernel)
theorem lam1 : LamS (defScope sLaw) (lScope e1) := lamS_by (by decide +kernel)
abbrev fr2 : List Str := ["_law_far"]
theorem ns2 : NScope fr2 [] fr2 (lScope e2) := nscope_by (by decide +kernel)
theorem lam2 : LamS (defScope sLaw) (lScope e2) := lamS_by (by decide +kernel)
abbrev fr3 : List Str := ["_law_other"]
theorem ns3 : NScope fr3 [] fr3 (lScope e3) := nscope_by (by decide +kernel)
theorem lam3 : LamS (defScope sLaw) (lScope e3) := lamS_by (by decide +kernel)
abbrev fr4 : List Str := ["_law_odd"]
theorem ns4 : NScope fr4 [] fr4 (lScope e4) := nscope_by (by decide +kernel)
theorem lam4 : LamS (defScope sLaw) (lScope e4) := lamS_by (by decide +kernel)
abbrev fr5 : List Str := ["_law_odd"]
theorem ns5 : NScope fr5 [] fr5 (lScope e5) := nscope_by (by decide +kernel)
theorem lam5 : LamS (defScope sLaw) (lScope e5) := lamS_by (by decide +kernel)
/-- the defs that the law calls -/
structure Lw (P : Program) (w : World) (K : PySem.W.Frag) (mg : Str → Option Value) (base : Heap) (CMo CD CN : Addr) : Prop where
  B : Bi mg
  rep : mg "repr" = none
  cel : Cl P w K mg base CX0 1 "_law_cell_at" ["_law_script", "_law_k"] (Tx.spCell K)
  ld : Cl P w K mg base CX0 4 "_law_deed" ["_law_state"] spLd
  lt : Cl P w K mg base CX0 1 "_law_text" ["_law_deed_here"] spLt
  wr : Cl P w K mg base CX0 3 "_law_wrong" ["_law_state", "_law_deed_here"] spWrong
  sp : Cl P w K mg base CX0 3 "_law_spoilt" ["_law_state", "_law_text_here"] spSpoilt
  dt : Cl P w K mg base (L2.CX P w) 6 "deed_text" ["deed"] (spDt CD)
  rd : Cl P w K mg base (L2.CX P w) 6 "read_deed" ["text"] (spRd K CN)
  ref : GOk P w K mg base 8 10 "_law_refused" (TTr CD CN)
/-- a value that reads as no deed -/
def OddN (H : Hp) (v : V) : Prop := ∃ e, EvAt H v e ∧ ∀ z, e = .str z → Bad9 z
/-- an odd name -/
def OddT (H : Hp) (v : V) : Prop := ∃ e, EvAt H v e ∧ goodT (.tup [.str "mount", .int 0, e, .str "/a"]) = false
def spNo (K : PySem.W.Frag) (CD CN : Addr) : LSp := fun ws H Q E => ∃ v, ws = [some v] ∧ NoW H v () ∧ ∀ H', Same H H' → E (.ref CD) none H'
def spFar (K : PySem.W.Frag) (CD CN : Addr) : LSp := fun ws H Q E => ∃ v p es, ws = [some v] ∧ DdAt H v p.1 es ∧ p ∈ formsL ∧ EsOk es ∧ Bad9 (Txt.join " " (wordsOf9 p.1 es)) ∧ ∀ d fs H', Same H H' → H' d = some (.xd fs) → E (.ref CN) (some d) H'
def spBad (K : PySem.W.Frag) (CD CN : Addr) : LSp := fun ws H Q E => ∃ z, ws = [some (.str z)] ∧ Bad9 z ∧ ∀ d fs H', Same H H' → H' d = some (.xd fs) → E (.ref CN) (some d) H'
def spOdd (K : PySem.W.Frag) (CD CN : Addr) : LSp := fun ws H Q E => ∃ v, ws = [some v] ∧ OddT H v ∧ ∀ H', Same H H' → E (.ref CD) none H'
def spOdn (K : PySem.W.Frag) (CD CN : Addr) : LSp := fun ws H Q E => ∃ v, ws = [some v] ∧ OddN H v ∧ ∀ d fs H', Same H H' → H' d = some (.xd fs) → E (.ref CN) (some d) H'
theorem tx_bad {K : PySem.W.Frag} {H : Hp} {z : Str} (h : Bad9 z) : Tx9 K H (.str z) none := by
  obtain ⟨h1, h2, h3⟩ := h
  have := Tx9.str (K := K) (H := H) z h1 h2
  rw [h3] at this
  exact this
theorem OddN.tx {K : PySem.W.Frag} {H : Hp} {v : V} (h : OddN H v) : Tx9 K H v none := by
  obtain ⟨e, he, hb⟩ := h
  cases e with
  | str z =>
    rw [he.1]
    exact tx_bad (hb z rfl)
  | int i =>
    rw [show v = .int i from he]
    exact .other (.base (.int i)) (by decide +kernel)
  | bl b =>
    rw [show v = .bl b from he]
    exact .other (.base (.bl b)) (by decide +kernel)
  | oth =>
    obtain ⟨n, ty, hs, _, _⟩ := Oth.ty (K := K) he
    exact .other ty hs
section
variable {P : Program} {w : World} {K : PySem.W.Frag} {mg : Str → Option Value} {base : Heap} {CMo CD CN : Addr} {qual : Str} {cl : List (Str × Addr)}
theorem lok0 (D : Lw P w K mg base CMo CD CN) (g d' : Addr) : LOk P w K mg base (L2.CX P w) 8 g (LF qual (lPar e0) (lScope e0) cl d') (lBody e0) fr0 (spNo K CD CN) := by
  refine lok_of ns0 (fun _ _ _ => rfl) fun A outer s H ws Q E hr _ h => ?_
  obtain ⟨v, rfl, ⟨t, ht, hb⟩, q⟩ := h
  refine ⟨_, pe_cl D.dt hr (by decide) (by rfl) (passes_call (takes_of rfl rfl rfl rfl) (fun _ _ _ _ h => h)) (pa_cons (pv 0) pa_nil), ?_⟩
  exact ⟨_, rfl, v, t, rfl, ht, (fun e => by rw [hb] at e; cases e), (fun e => by rw [hb] at e; cases e), fun _ H' s' => q H' s'⟩
theorem lok1 (D : Lw P w K mg base CMo CD CN) (g d' : Addr) : LOk P w K mg base (L2.CX P w) 8 g (LF qual (lPar e1) (lScope e1) cl d') (lBody e1) fr1 (spNo K CD CN) := by
  refine lok_of ns1 (fun _ _ _ => rfl) fun A outer s H ws Q E hr _ h => ?_
  obtain ⟨v, rfl, ⟨t, ht, hb⟩, q⟩ := h
  refine ⟨_, pe_cl D.dt hr (by decide) (by rfl) (passes_call (takes_of rfl rfl rfl rfl) (fun _ _ _ _ h => h)) (pa_cons (pv 0) pa_nil), ?_⟩
  exact ⟨_, rfl, v, t, rfl, ht, (fun e => by rw [hb] at e; cases e), (fun e => by rw [hb] at e; cases e), fun _ H' s' => q H' s'⟩
theorem lok2 (D : Lw P w K mg base CMo CD CN) (g d' : Addr) : LOk P w K mg base (L2.CX P w) 8 g (LF qual (lPar e2) (lScope e2) cl d') (lBody e2) fr2 (spFar K CD CN) := by
  refine lok_of ns2 (fun _ _ _ => rfl) fun A outer s H ws Q E hr _ h => ?_
  obtain ⟨v, p, es, rfl, hd, hp, he, hb, q⟩ := h
  refine ⟨_, pe_cl D.rd hr (by decide) (by rfl) (passes_call (takes_of rfl rfl rfl rfl) (fun _ _ _ _ h => h)) (pa_cons (pe_cl D.lt hr (by decide) (by rfl) pass0 (pa_cons (pv 0) pa_nil)) pa_nil), ?_⟩
  refine ⟨_, rfl, v, p, es, rfl, hd, hp, he, fun H1 s1 => ⟨_, _, rfl, tx_bad hb, (fun es z => nomatch z), fun _ d fs H' s' hd' => q d fs H' (s1.trans s') hd'⟩⟩
theorem lok3 (D : Lw P w K mg base CMo CD CN) (g d' : Addr) : LOk P w K mg base (L2.CX P w) 8 g (LF qual (lPar e3) (lScope e3) cl d') (lBody e3) fr3 (spBad K CD CN) := by
  refine lok_of ns3 (fun _ _ _ => rfl) fun A outer s H ws Q E hr _ h => ?_
  obtain ⟨z, rfl, hb, q⟩ := h
  refine ⟨_, pe_cl D.rd hr (by decide) (by rfl) (passes_call (takes_of rfl rfl rfl rfl) (fun _ _ _ _ h => h)) (pa_cons (pv 0) pa_nil), ?_⟩
  exact ⟨_, rfl, _, _, rfl, tx_bad hb, (fun es z => nomatch z), fun _ d fs H' s' hd' => q d fs H' s' hd'⟩
theorem lok4 (D : Lw P w K mg base CMo CD CN) (g d' : Addr) : LOk P w K mg base (L2.CX P w) 8 g (LF qual (lPar e4) (lScope e4) cl d') (lBody e4) fr4 (spOdd K CD CN) := by
  refine lok_of ns4 (fun _ _ _ => rfl) fun A outer s H ws Q E hr _ h => ?_
  obtain ⟨v, rfl, ⟨e, he, hb⟩, q⟩ := h
  refine ⟨_, pe_cl D.dt hr (by decide) (by rfl) (passes_call (takes_of rfl rfl rfl rfl) (fun _ _ _ _ h => h)) (pa_cons (pe_tup (pa_cons pe_str (pa_cons pe_int (pa_cons (pv 0) (pa_cons pe_str pa_nil))))) pa_nil), ?_⟩
  refine ⟨_, rfl, (by show 4 ≤ sizeLine; decide), fun a ha => ?_⟩
  have s1 := same_new (o := HO.tup [V.str "mount", .int 0, v, .str "/a"]) ha
  refine ⟨_, .tup [.str "mount", .int 0, e, .str "/a"], rfl, tv_tup upd_same (.cons ⟨rfl, by decide +kernel⟩ (.cons rfl (.cons (he.same s1) (.cons ⟨rfl, by decide +kernel⟩ .nil)))) (by show 4 ≤ 900; decide) (fun z hz => by cases hz; exact .inl (by decide +kernel)), (fun e => by rw [hb] at e; cases e), (fun e => by rw [hb] at e; cases e), fun _ H' s' => q H' (s1.trans s')⟩
theorem lok5 (D : Lw P w K mg base CMo CD CN) (g d' : Addr) : LOk P w K mg base (L2.CX P w) 8 g (LF qual (lPar e5) (lScope e5) cl d') (lBody e5) fr5 (spOdn K CD CN) := by
  refine lok_of ns5 (fun _ _ _ => rfl) fun A outer s H ws Q E hr _ h => ?_
  obtain ⟨v, rfl, hb, q⟩ := h
  refine ⟨_, pe_cl D.rd hr (by decide) (by rfl) (passes_call (takes_of rfl rfl rfl rfl) (fun _ _ _ _ h => h)) (pa_cons (pv 0) pa_nil), ?_⟩
  exact ⟨_, rfl, _, _, rfl, hb.tx, (fun es z => nomatch z), fun _ d fs H' s' hd' => q d fs H' s' hd'⟩
end
section
variable {P : Program} {w : World} {K : PySem.W.Frag} {mg : Str → Option Value} {base : Heap} {f c Pt : Addr} {A : Around} {outer : List Env} {s : Shared} {H0 : Hp} {E : XK} {CMo CD CN : Addr} {T : List (Addr × Str)}
abbrev cl0 (X : Cx) : List (Str × Addr) := cloFrom X.env.cells (lScope e0).names []
def kk0 (X : Cx) (K : PySem.W.Frag) (CD CN : Addr) : LKind := ⟨LF (X.env.qual ++ "<lambda>") (lPar e0) (lScope e0) (cl0 X), lBody e0, spNo K CD CN⟩
theorem caps0 (ok : (XLw P w K mg base f c A outer s H0 E).Ok) : Caps (XLw P w K mg base f c A outer s H0 E) (cl0 (XLw P w K mg base f c A outer s H0 E)) fr0 [6] := Caps.made ok lam0.free (by decide +kernel) rfl
theorem pe0 (D : Lw P w K mg base CMo CD CN) (L : LmT base mg T c Pt lamQL) (hr : Room 14 (XLw P w K mg base f c A outer s H0 E).A) {p lp pos : Pos} (hdef : defaultsOf (lPar e0) (XLw P w K mg base f c A outer s H0 E).env = ([], [])) : PE (XLw P w K mg base f c A outer s H0 E) (.Call (.Name "_law_refused" p) [.Lambda (lPar e0) (lBody e0) (lScope e0) lp] [] pos) (tGive (cl0 (XLw P w K mg base f c A outer s H0 E)) [kk0 (XLw P w K mg base f c A outer s H0 E) K CD CN] (fun σ => [6].map (slotAt σ)) (TTr CD CN) (tLamO T (LF ((XLw P w K mg base f c A outer s H0 E).env.qual ++ "<lambda>") (lPar e0) (lScope e0) (cl0 (XLw P w K mg base f c A outer s H0 E))) (lBody e0))) :=
  pe_give D.ref (by rfl) (cellC_own caps0 (fun _ => rfl)) (hr.mono (by decide)) (fun l hl g d => by
    rw [List.mem_singleton.mp hl]
    exact lok0 D g d) (pe_lam L.tb rfl L.mem L.uni hdef lam0)
abbrev cl1 (X : Cx) : List (Str × Addr) := cloFrom X.env.cells (lScope e1).names []
def kk1 (X : Cx) (K : PySem.W.Frag) (CD CN : Addr) : LKind := ⟨LF (X.env.qual ++ "<lambda>") (lPar e1) (lScope e1) (cl1 X), lBody e1, spNo K CD CN⟩
theorem caps1 (ok : (XLw P w K mg base f c A outer s H0 E).Ok) : Caps (XLw P w K mg base f c A outer s H0 E) (cl1 (XLw P w K mg base f c A outer s H0 E)) fr1 [8] := Caps.made ok lam1.free (by decide +kernel) rfl
theorem pe1 (D : Lw P w K mg base CMo CD CN) (L : LmT base mg T c Pt lamQL) (hr : Room 14 (XLw P w K mg base f c A outer s H0 E).A) {p lp pos : Pos} (hdef : defaultsOf (lPar e1) (XLw P w K mg base f c A outer s H0 E).env = ([], [])) : PE (XLw P w K mg base f c A outer s H0 E) (.Call (.Name "_law_refused" p) [.Lambda (lPar e1) (lBody e1) (lScope e1) lp] [] pos) (tGive (cl1 (XLw P w K mg base f c A outer s H0 E)) [kk1 (XLw P w K mg base f c A outer s H0 E) K CD CN] (fun σ => [8].map (slotAt σ)) (TTr CD CN) (tLamO T (LF ((XLw P w K mg base f c A outer s H0 E).env.qual ++ "<lambda>") (lPar e1) (lScope e1) (cl1 (XLw P w K mg base f c A outer s H0 E))) (lBody e1))) :=
  pe_give D.ref (by rfl) (cellC_own caps1 (fun _ => rfl)) (hr.mono (by decide)) (fun l hl g d => by
    rw [List.mem_singleton.mp hl]
    exact lok1 D g d) (pe_lam L.tb rfl L.mem L.uni hdef lam1)
abbrev cl2 (X : Cx) : List (Str × Addr) := cloFrom X.env.cells (lScope e2).names []
def kk2 (X : Cx) (K : PySem.W.Frag) (CD CN : Addr) : LKind := ⟨LF (X.env.qual ++ "<lambda>") (lPar e2) (lScope e2) (cl2 X), lBody e2, spFar K CD CN⟩
theorem caps2 (ok : (XLw P w K mg base f c A outer s H0 E).Ok) : Caps (XLw P w K mg base f c A outer s H0 E) (cl2 (XLw P w K mg base f c A outer s H0 E)) fr2 [8] := Caps.made ok lam2.free (by decide +kernel) rfl
theorem pe2 (D : Lw P w K mg base CMo CD CN) (L : LmT base mg T c Pt lamQL) (hr : Room 14 (XLw P w K mg base f c A outer s H0 E).A) {p lp pos : Pos} (hdef : defaultsOf (lPar e2) (XLw P w K mg base f c A outer s H0 E).env = ([], [])) : PE (XLw P w K mg base f c A outer s H0 E) (.Call (.Name "_law_refused" p) [.Lambda (lPar e2) (lBody e2) (lScope e2) lp] [] pos) (tGive (cl2 (XLw P w K mg base f c A outer s H0 E)) [kk2 (XLw P w K mg base f c A outer s H0 E) K CD CN] (fun σ => [8].map (slotAt σ)) (TTr CD CN) (tLamO T (LF ((XLw P w K mg base f c A outer s H0 E).env.qual ++ "<lambda>") (lPar e2) (lScope e2) (cl2 (XLw P w K mg base f c A outer s H0 E))) (lBody e2))) :=
  pe_give D.ref (by rfl) (cellC_own caps2 (fun _ => rfl)) (hr.mono (by decide)) (fun l hl g d => by
    rw [List.mem_singleton.mp hl]
    exact lok2 D g d) (pe_lam L.tb rfl L.mem L.uni hdef lam2)
abbrev cl3 (X : Cx) : List (Str × Addr) := cloFrom X.env.cells (lScope e3).names []
def kk3 (X : Cx) (K : PySem.W.Frag) (CD CN : Addr) : LKind := ⟨LF (X.env.qual ++ "<lambda>") (lPar e3) (lScope e3) (cl3 X), lBody e3, spBad K CD CN⟩
theorem caps3 (ok : (XLw P w K mg base f c A outer s H0 E).Ok) : Caps (XLw P w K mg base f c A outer s H0 E) (cl3 (XLw P w K mg base f c A outer s H0 E)) fr3 [10] := Caps.made ok lam3.free (by decide +kernel) rfl
theorem pe3 (D : Lw P w K mg base CMo CD CN) (L : LmT base mg T c Pt lamQL) (hr : Room 14 (XLw P w K mg base f c A outer s H0 E).A) {p lp pos : Pos} (hdef : defaultsOf (lPar e3) (XLw P w K mg base f c A outer s H0 E).env = ([], [])) : PE (XLw P w K mg base f c A outer s H0 E) (.Call (.Name "_law_refused" p) [.Lambda (lPar e3) (lBody e3) (lScope e3) lp] [] pos) (tGive (cl3 (XLw P w K mg base f c A outer s H0 E)) [kk3 (XLw P w K mg base f c A outer s H0 E) K CD CN] (fun σ => [10].map (slotAt σ)) (TTr CD CN) (tLamO T (LF ((XLw P w K mg base f c A outer s H0 E).env.qual ++ "<lambda>") (lPar e3) (lScope e3) (cl3 (XLw P w K mg base f c A outer s H0 E))) (lBody e3))) :=
  pe_give D.ref (by rfl) (cellC_own caps3 (fun _ => rfl)) (hr.mono (by decide)) (fun l hl g d => by
    rw [List.mem_singleton.mp hl]
    exact lok3 D g d) (pe_lam L.tb rfl L.mem L.uni hdef lam3)
abbrev cl4 (X : Cx) : List (Str × Addr) := cloFrom X.env.cells (lScope e4).names []
def kk4 (X : Cx) (K : PySem.W.Frag) (CD CN : Addr) : LKind := ⟨LF (X.env.qual ++ "<lambda>") (lPar e4) (lScope e4) (cl4 X), lBody e4, spOdd K CD CN⟩
theorem caps4 (ok : (XLw P w K mg base f c A outer s H0 E).Ok) : Caps (XLw P w K mg base f c A outer s H0 E) (cl4 (XLw P w K mg base f c A outer s H0 E)) fr4 [11] := Caps.made ok lam4.free (by decide +kernel) rfl
theorem pe4 (D : Lw P w K mg base CMo CD CN) (L : LmT base mg T c Pt lamQL) (hr : Room 14 (XLw P w K mg base f c A outer s H0 E).A) {p lp pos : Pos} (hdef : defaultsOf (lPar e4) (XLw P w K mg base f c A outer s H0 E).env = ([], [])) : PE (XLw P w K mg base f c A outer s H0 E) (.Call (.Name "_law_refused" p) [.Lambda (lPar e4) (lBody e4) (lScope e4) lp] [] pos) (tGive (cl4 (XLw P w K mg base f c A outer s H0 E)) [kk4 (XLw P w K mg base f c A outer s H0 E) K CD CN] (fun σ => [11].map (slotAt σ)) (TTr CD CN) (tLamO T (LF ((XLw P w K mg base f c A outer s H0 E).env.qual ++ "<lambda>") (lPar e4) (lScope e4) (cl4 (XLw P w K mg base f c A outer s H0 E))) (lBody e4))) :=
  pe_give D.ref (by rfl) (cellC_own caps4 (fun _ => rfl)) (hr.mono (by decide)) (fun l hl g d => by
    rw [List.mem_singleton.mp hl]
    exact lok4 D g d) (pe_lam L.tb rfl L.mem L.uni hdef lam4)
abbrev cl5 (X : Cx) : List (Str × Addr) := cloFrom X.env.cells (lScope e5).names []
def kk5 (X : Cx) (K : PySem.W.Frag) (CD CN : Addr) : LKind := ⟨LF (X.env.qual ++ "<lambda>") (lPar e5) (lScope e5) (cl5 X), lBody e5, spOdn K CD CN⟩
theorem caps5 (ok : (XLw P w K mg base f c A outer s H0 E).Ok) : Caps (XLw P w K mg base f c A outer s H0 E) (cl5 (XLw P w K mg base f c A outer s H0 E)) fr5 [11] := Caps.made ok lam5.free (by decide +kernel) rfl
theorem pe5 (D : Lw P w K mg base CMo CD CN) (L : LmT base mg T c Pt lamQL) (hr : Room 14 (XLw P w K mg base f c A outer s H0 E).A) {p lp pos : Pos} (hdef : defaultsOf (lPar e5) (XLw P w K mg base f c A outer s H0 E).env = ([], [])) : PE (XLw P w K mg base f c A outer s H0 E) (.Call (.Name "_law_refused" p) [.Lambda (lPar e5) (lBody e5) (lScope e5) lp] [] pos) (tGive (cl5 (XLw P w K mg base f c A outer s H0 E)) [kk5 (XLw P w K mg base f c A outer s H0 E) K CD CN] (fun σ => [11].map (slotAt σ)) (TTr CD CN) (tLamO T (LF ((XLw P w K mg base f c A outer s H0 E).env.qual ++ "<lambda>") (lPar e5) (lScope e5) (cl5 (XLw P w K mg base f c A outer s H0 E))) (lBody e5))) :=
  pe_give D.ref (by rfl) (cellC_own caps5 (fun _ => rfl)) (hr.mono (by decide)) (fun l hl g d => by
    rw [List.mem_singleton.mp hl]
    exact lok5 D g d) (pe_lam L.tb rfl L.mem L.uni hdef lam5)
end
end K9
set_option Elab.async false
set_option linter.all false
set_option maxRecDepth 100000
set_option maxHeartbeats 8000000
set_option autoImplicit false
/-! the law: the turn, one by one -/
namespace K9
open PySem PySem.Spec PyProof.Rows L2 Cm Tx Tk ErV LmB NdefX LamX
theorem passF {P : Program} {w : World} {X : Cx} : Passes (L2.CX P w) X (fun _ _ _ => False) := fun _ _ _ _ _ _ _ ⟨_, _, _, _, _, _, _, _, _, _, _, _, z⟩ => z.elim
theorem iteF' {b : Bool} {P Q : Prop} (h : b = false) (q : Q) : if b = true then P else Q := by
  rw [h]
  exact q
theorem neS (x : Str) : (!decide (V.str x = V.str x)) = false := by simp
/-- the draws' list stands -/
def G2 (T : List (Addr × Str)) (a : Addr) (Hs : Hp) : L2.St → Hp → Prop := fun σ H => ∃ l s1 s3 s4 s5 s6 s7 s8 s9 s10 s11, σ = sL a s1 (some (.ref l)) s3 s4 s5 s6 s7 s8 s9 s10 s11 ∧ Sv T Hs l H
/-- the deed too -/
def G4 (T : List (Addr × Str)) (a : Addr) (Hs : Hp) : L2.St → Hp → Prop := fun σ H => ∃ l dv p es s1 s3 s5 s6 s7 s8 s9 s10 s11, σ = sL a s1 (some (.ref l)) s3 (some dv) s5 s6 s7 s8 s9 s10 s11 ∧ Sv T Hs l H ∧ DdAt H dv p.1 es ∧ p ∈ formsL ∧ Paired Fits es p.2
abbrev wt (p : Str × List Str) (es : List EV) : Str := Txt.join " " (wordsOf9 p.1 es)
/-- its text too; R what is told of the slots behind -/
def G5 (T : List (Addr × Str)) (a : Addr) (R : Option V → Option V → Option V → Option V → Option V → Option V → (Str × List Str) → List EV → Hp → Prop) (Hs : Hp) : L2.St → Hp → Prop := fun σ H => ∃ l dv p es s1 s3 s6 s7 s8 s9 s10 s11, σ = sL a s1 (some (.ref l)) s3 (some dv) (some (.str (wt p es))) s6 s7 s8 s9 s10 s11 ∧ Sv T Hs l H ∧ DdAt H dv p.1 es ∧ p ∈ formsL ∧ Paired Fits es p.2 ∧ R s6 s7 s8 s9 s10 s11 p es H
def r0 : Option V → Option V → Option V → Option V → Option V → Option V → (Str × List Str) → List EV → Hp → Prop := fun _ _ _ _ _ _ _ _ _ => True
/-- a value that is no deed -/
def r6 : Option V → Option V → Option V → Option V → Option V → Option V → (Str × List Str) → List EV → Hp → Prop := fun s6 _ _ _ _ _ _ _ H => ∃ v, s6 = some v ∧ NoW H v ()
/-- a text of no deed -/
def r10 : Option V → Option V → Option V → Option V → Option V → Option V → (Str × List Str) → List EV → Hp → Prop := fun _ _ _ _ s10 _ _ _ _ => ∃ z, s10 = some (.str z) ∧ Bad9 z
theorem tx_fit {K : PySem.W.Frag} {H : Hp} {p : Str × List Str} (h : p ∈ formsL) {es : List EV} (hf : Paired Fits es p.2) : Tx9 K H (.str (wt p es)) (some (.str p.1 :: es)) := by
  have e : Txt.split (wt p es) " " = wordsOf9 p.1 es := split_words (by unfold wordsOf9; simp) fun w hw => asc_no (words_asc h hf w hw).1
  have hl := ws_len h hf
  have hp3 := (p3 h hf).1
  have t := Tx9.str (K := K) (H := H) (wt p es) (join_short (by omega) fun w hw => Nat.le_trans (words_asc h hf w hw).2 (by decide)) (by rw [e]; exact wsOk_of h (wok0 h hf))
  rw [e, read_good h hf] at t
  exact t
section
variable {P : Program} {w : World} {K : PySem.W.Frag} {mg : Str → Option Value} {base : Heap} {f c Pt : Addr} {A : Around} {outer : List Env} {s : Shared} {H0 : Hp} {E : XK} {CMo CD CN a : Addr} {T : List (Addr × Str)}
theorem hA0 (D : Lw P w K mg base CMo CD CN) (hr : Room 14 (XLw P w K mg base f c A outer s H0 E).A) : HoO (XLw P w K mg base f c A outer s H0 E) (stA 0) (G2 T a) (G4 T a) := by
  refine ⟨_, ps_set (i := 4) scLw.nd rfl (.inl rfl) (pe_cl D.ld hr (by decide) (by rfl) pass0 (pa_cons (pv 2) pa_nil)), ?_⟩
  rintro Hs D0 σ H ⟨l, s1, s3, s4, s5, s6, s7, s8, s9, s10, s11, rfl, S⟩ q
  exact ⟨_, rfl, l, rfl, S.st, fun v p es H' hp hf hd b => q _ _ ⟨l, v, p, es, _, _, _, _, _, _, _, _, _, rfl, S.bs b, hd, hp, hf⟩⟩
theorem hA1 (D : Lw P w K mg base CMo CD CN) (hr : Room 14 (XLw P w K mg base f c A outer s H0 E).A) : HoO (XLw P w K mg base f c A outer s H0 E) (stA 1) (G4 T a) (G5 T a r0) := by
  refine ⟨_, ps_set (i := 5) scLw.nd rfl (.inl rfl) (pe_cl D.lt hr (by decide) (by rfl) pass0 (pa_cons (pv 4) pa_nil)), ?_⟩
  rintro Hs D0 σ H ⟨l, dv, p, es, s1, s3, s5, s6, s7, s8, s9, s10, s11, rfl, S, hd, hp, hf⟩ q
  exact ⟨_, rfl, dv, p, es, rfl, hd, hp, es_ok hp hf, fun H' sm => q _ _ ⟨l, dv, p, es, _, _, _, _, _, _, _, _, rfl, S.same sm, hd.same sm, hp, hf, trivial⟩⟩
theorem hA2 (D : Lw P w K mg base CMo CD CN) (hr : Room 14 (XLw P w K mg base f c A outer s H0 E).A) (hg : (XLw P w K mg base f c A outer s H0 E).A.guards = some []) : HoO (XLw P w K mg base f c A outer s H0 E) (stA 2) (G5 T a r0) (G5 T a r0) := by
  have hu : (XLw P w K mg base f c A outer s H0 E).A.units + 65 < cLine := by
    have := hr.un
    omega
  refine ⟨_, ps_if (PW.pt (pw_or (pt_cmpR op_ne (pe_cl D.dt hr (by decide) (by rfl) passF (pa_cons (pv 4) pa_nil)) (pv 5) (nomark _)) (pw_or1 (pt_cmpR op_ne (pe_callB (call_reprD hg hu) (by rfl) D.rep boot_repr (pa_cons (pe_cl D.rd hr (by decide) (by rfl) passF (pa_cons (pv 5) pa_nil)) pa_nil)) (pe_callB (call_reprD hg hu) (by rfl) D.rep boot_repr (pa_cons (pv 4) pa_nil)) (nomark _))))) (pss_one (ps_ret pe_bl)) pss_nil, ?_⟩
  rintro Hs D0 σ H ⟨l, dv, p, es, s1, s3, s6, s7, s8, s9, s10, s11, rfl, S, hd, hp, hf, _⟩ q
  have eo := es_ok hp hf
  refine ⟨_, rfl, dv, .tup (.str p.1 :: es), rfl, dd_tv hp hf hd, (fun _ => eo.2), (fun _ H1 m1 => ?_), (fun e => by rw [fit_good hp hf] at e; cases e)⟩
  refine ⟨_, rfl, rfl, _, rfl, iteF' (neS _) ?_⟩
  refine ⟨_, rfl, _, _, rfl, tx_fit hp hf, (fun es' e => ?_), (fun e => nomatch e)⟩
  cases e
  rintro v H2 m2 ⟨a2, rfl, ha2⟩
  have m12 := m1.trans m2
  have hd2 := hd.same m12
  obtain ⟨ad, rfl, had⟩ := hd2
  obtain ⟨z1, z2, z3, z4⟩ := sm_tup (sm_deed hp hf) (by have := Paired.length hf; have := (p3 hp hf).1; rw [List.length_cons]; omega)
  refine ⟨_, _, rfl, ⟨_, rfl⟩, dp_tup ha2, z1, z2, z3, z4, _, rfl, _, _, rfl, ⟨_, rfl⟩, dp_tup had, z1, z2, z3, z4, ?_⟩
  refine ⟨rfl, _, rfl, iteF' (neS _) (q _ _ ⟨l, _, p, es, _, _, _, _, _, _, _, _, rfl, S.same m12, ⟨ad, rfl, had⟩, hp, hf, trivial⟩)⟩
theorem hA3 (D : Lw P w K mg base CMo CD CN) (hr : Room 14 (XLw P w K mg base f c A outer s H0 E).A) : HoO (XLw P w K mg base f c A outer s H0 E) (stA 3) (G5 T a r0) (G5 T a r6) := by
  refine ⟨_, ps_set (i := 6) scLw.nd rfl (.inr rfl) (pe_cl D.wr hr (by decide) (by rfl) pass0 (pa_cons (pv 2) (pa_cons (pv 4) pa_nil))), ?_⟩
  rintro Hs D0 σ H ⟨l, dv, p, es, s1, s3, s6, s7, s8, s9, s10, s11, rfl, S, hd, hp, hf, _⟩ q
  exact ⟨_, rfl, _, rfl, l, dv, p, es, rfl, S.st, hp, hf, hd, fun v H' hn b => q _ _ ⟨l, dv, p, es, _, _, _, _, _, _, _, _, rfl, S.bs b, hd.bs S.st b, hp, hf, v, rfl, hn⟩⟩
theorem hA4 (D : Lw P w K mg base CMo CD CN) (L : LmT base mg T c Pt lamQL) (hr : Room 14 (XLw P w K mg base f c A outer s H0 E).A) : HoO (XLw P w K mg base f c A outer s H0 E) (stA 4) (G5 T a r6) (G5 T a r0) := by
  refine ⟨_, ps_if (pt_cmpR op_ne (pe0 D L hr rfl) pe_str (nomark _)) (pss_one (ps_ret pe_bl)) pss_nil, ?_⟩
  rintro Hs D0 σ H ⟨l, dv, p, es, s1, s3, s6, s7, s8, s9, s10, s11, rfl, S, hd, hp, hf, v, rfl, hn⟩ q
  refine ⟨S.tb, fun lv H2 x2 t2 la => ⟨lv, rfl, _, List.mem_singleton.mpr rfl, fun _ => rfl, la, fun Q2 E2 q1 q2 q3 => ?_⟩⟩
  refine ⟨v, rfl, hn.ext x2, fun H3 m3 => q2 H3 fun H4 m4 => ?_⟩
  have S4 := (S.ext x2 t2).same (m3.trans m4)
  exact ⟨rfl, _, rfl, iteF' (neS _) (q _ _ ⟨l, dv, p, es, _, _, _, _, _, _, _, _, rfl, S4, (hd.ext x2).same (m3.trans m4), hp, hf, trivial⟩)⟩
theorem hA6 (D : Lw P w K mg base CMo CD CN) (hr : Room 14 (XLw P w K mg base f c A outer s H0 E).A) : HoO (XLw P w K mg base f c A outer s H0 E) (stA 6) (G5 T a r0) (G5 T a r10) := by
  refine ⟨_, ps_set (i := 10) scLw.nd rfl (.inr rfl) (pe_cl D.sp hr (by decide) (by rfl) pass0 (pa_cons (pv 2) (pa_cons (pv 5) pa_nil))), ?_⟩
  rintro Hs D0 σ H ⟨l, dv, p, es, s1, s3, s6, s7, s8, s9, s10, s11, rfl, S, hd, hp, hf, _⟩ q
  exact ⟨_, rfl, _, rfl, l, p, es, rfl, S.st, hp, hf, fun z H' hb b => q _ _ ⟨l, dv, p, es, _, _, _, _, _, _, _, _, rfl, S.bs b, hd.bs S.st b, hp, hf, z, rfl, hb⟩⟩
theorem hA7 (D : Lw P w K mg base CMo CD CN) (L : LmT base mg T c Pt lamQL) (hr : Room 14 (XLw P w K mg base f c A outer s H0 E).A) : HoO (XLw P w K mg base f c A outer s H0 E) (stA 7) (G5 T a r10) (G2 T a) := by
  refine ⟨_, ps_if (pt_cmpR op_ne (pe3 D L hr rfl) pe_str (nomark _)) (pss_one (ps_ret pe_bl)) pss_nil, ?_⟩
  rintro Hs D0 σ H ⟨l, dv, p, es, s1, s3, s6, s7, s8, s9, s10, s11, rfl, S, hd, hp, hf, z, rfl, hz⟩ q
  refine ⟨S.tb, fun lv H2 x2 t2 la => ⟨lv, rfl, _, List.mem_singleton.mpr rfl, fun _ => rfl, la, fun Q2 E2 q1 q2 q3 => ?_⟩⟩
  refine ⟨z, rfl, hz, fun d fs H3 m3 hd3 => q3 d fs H3 hd3 fun H4 m4 => ?_⟩
  have S4 := (S.ext x2 t2).same (m3.trans m4)
  exact ⟨rfl, _, rfl, iteF' (neS _) (q _ _ ⟨l, _, _, _, _, _, _, _, _, _, _, rfl, S4⟩)⟩
end
end K9
set_option Elab.async false
set_option linter.all false
set_option maxRecDepth 100000
set_option maxHeartbeats 8000000
set_option autoImplicit false
/-! the law: numbers too far and near -/
namespace K9
open PySem PySem.Spec PyProof.Rows L2 Cm Tx Tk ErV LmB NdefX LamX
def MM (m : Int) : Prop := m = 10 ^ 60 ∨ m = -(10 ^ 60)
section
variable {p : Str × List Str} (h : p ∈ formsL) {es : List EV} (hf : Paired Fits es p.2)
include h hf
theorem near_fit {j : Int} (hj : j ∈ areas) : Paired Fits (.int j :: es.drop 1) p.2 := by
  obtain ⟨i, r, rfl, _, fr, e, pr⟩ := es_sp h hf
  rw [e]
  exact .cons (.space j hj) pr
theorem far_ok1 {m : Int} (hm : MM m) : farB m = true := by
  rcases hm with rfl | rfl
  · exact far_ok.1
  · exact far_ok.2
theorem far_no {m : Int} (hm : MM m) : goodT (.tup (.str p.1 :: .int m :: es.drop 1)) = false := by
  have a := far_ok1 h hf hm
  unfold farB at a
  simp only [Bool.and_eq_true, Bool.not_eq_true'] at a
  rw [goodT_eq]
  show (_ && (_ && wholeE (some (.int m)))) = false
  rw [a.2.2.1, Bool.and_false, Bool.and_false]
theorem far_es {m : Int} (hm : MM m) : EsOk (.int m :: es.drop 1) := by
  have a := far_ok1 h hf hm
  unfold farB at a
  simp only [Bool.and_eq_true, decide_eq_true_eq, Bool.not_eq_true'] at a
  obtain ⟨e1, e2⟩ := es_ok h hf
  refine ⟨by rw [List.length_cons, List.length_drop]; have := (p3 h hf).2; have := Paired.length hf; omega, fun e he => ?_⟩
  rcases List.mem_cons.mp he with rfl | he
  · exact ⟨a.2.2.2.1, Nat.le_trans a.2.1 (by decide)⟩
  · exact e2 e (List.mem_of_mem_drop he)
theorem far_tv {H : Hp} {v : V} {m : Int} (d : DdAt H v p.1 (.int m :: es.drop 1)) : TvAt H v (.tup (.str p.1 :: .int m :: es.drop 1)) := by
  obtain ⟨a, rfl, ha⟩ := d
  have lf := Paired.length hf
  have hp3 := (p3 h hf).1
  refine tv_tup ha (paired_ev fun e he u hu => ?_) (by rw [List.length_cons, List.length_cons, List.length_drop]; omega) fun z hz => ?_
  · rcases List.mem_cons.mp he with rfl | he
    · cases hu
      exact (forms_name h).1
    rcases List.mem_cons.mp he with rfl | he
    · cases hu
    · obtain ⟨s, o, _⟩ := fit_e h hf (List.mem_of_mem_drop he)
      subst hu
      exact Nat.le_trans o.len (by decide)
  · cases hz
    exact .inl (List.mem_map_of_mem h)
theorem far_bad {m : Int} (hm : MM m) : Bad9 (wt p (.int m :: es.drop 1)) := by
  have b := sp_far h hf hm
  obtain ⟨i, r, rfl, _⟩ := es_sp h hf
  exact b
end
/-- the list of numbers too far stands at b; a number of it -/
def rM0 (b : Addr) : Option V → Option V → Option V → Option V → Option V → Option V → (Str × List Str) → List EV → Hp → Prop := fun _ s7 _ _ _ _ _ _ H => H b = some (.lst [.int (10 ^ 60), .int (0 - 10 ^ 60)]) ∧ ∃ m, s7 = some (.int m) ∧ MM m
def rM1 (b : Addr) : Option V → Option V → Option V → Option V → Option V → Option V → (Str × List Str) → List EV → Hp → Prop := fun _ s7 s8 s9 _ _ p es H => H b = some (.lst [.int (10 ^ 60), .int (0 - 10 ^ 60)]) ∧ ∃ m j x y, s7 = some (.int m) ∧ MM m ∧ j ∈ areas ∧ s8 = some x ∧ s9 = some y ∧ DdAt H x p.1 (.int m :: es.drop 1) ∧ DdAt H y p.1 (.int j :: es.drop 1)
def rM9 (b : Addr) : Option V → Option V → Option V → Option V → Option V → Option V → (Str × List Str) → List EV → Hp → Prop := fun _ _ _ _ _ _ _ _ H => H b = some (.lst [.int (10 ^ 60), .int (0 - 10 ^ 60)])
theorem near_in {m : Int} (h : MM m) : m / 10 ∈ areas := by
  rcases h with rfl | rfl
  · decide +kernel
  · decide +kernel
section
variable {P : Program} {w : World} {K : PySem.W.Frag} {mg : Str → Option Value} {base : Heap} {f c Pt : Addr} {A : Around} {outer : List Env} {s : Shared} {H0 : Hp} {E : XK} {CMo CD CN a : Addr} {T : List (Addr × Str)}
theorem hM0 (D : Lw P w K mg base CMo CD CN) (hr : Room 14 (XLw P w K mg base f c A outer s H0 E).A) : HoO (α := Hp × Addr) (XLw P w K mg base f c A outer s H0 E) (stM 0) (fun i => G5 T a (rM0 i.2) i.1) (fun i => G5 T a (rM1 i.2) i.1) := by
  refine ⟨_, ps_asg (pe_tup (pa_cons (pe_op op_catA (pe_tup (pa_cons (pe_ix ix_tup (pv 4) pe_int (fun _ _ => rfl)) (pa_cons (pv 7) pa_nil))) (pe_slice sl_tupA (pv 4) (po_some pe_int) po_none))
      (pa_cons (pe_op op_catA (pe_tup (pa_cons (pe_ix ix_tup (pv 4) pe_int (fun _ _ => rfl)) (pa_cons (pe_op op_fdiv (pv 7) pe_int) pa_nil))) (pe_slice sl_tupA (pv 4) (po_some pe_int) po_none)) pa_nil)))
    (pg_tup rfl (pgs_cons (pg_name (i := 8) scLw.nd rfl (.inr rfl)) (pgs_cons (pg_name (i := 9) scLw.nd rfl (.inl rfl)) pgs_nil))), ?_⟩
  rintro ⟨Hs, b⟩ D0 σ H ⟨l, dv, p, es, s1, s3, s6, s7, s8, s9, s10, s11, rfl, S, hd, hp, hf, hb, m, rfl, hm⟩ q
  obtain ⟨d, rfl, hd⟩ := hd
  have hd0 := hd
  obtain ⟨i, r, rfl, hi, fr, efr, pr⟩ := es_sp hp hf
  have hr0 : r ≠ [] := fun z => by
    subst z
    cases pr
    have := (p3 hp hf).2
    rw [efr] at this
    exact absurd this (by decide)
  have lr : r.length ≤ 10 := by
    have := Paired.length pr
    have h3 := (p3 hp hf).1
    rw [efr, List.length_cons] at h3
    omega
  have c2 := cut_from (xs := (V.str p.1 :: V.int i :: r.map evV)) (a := 2) (by simp) (by decide)
  have h0 : atI ((EV.str p.1 :: EV.int i :: r).map evV) 0 = some (.str p.1) := atI_nat (show ((EV.str p.1 :: EV.int i :: r).map evV)[0]? = some (.str p.1) from rfl)
  have hne : r.map evV ≠ [] := fun z => hr0 (List.map_eq_nil_iff.mp z)
  refine ⟨_, rfl, d, _, 0, .str p.1, rfl, rfl, SqT.of hd, h0, _, rfl, (by show 2 ≤ sizeLine; decide), fun t1 ht1 => ?_⟩
  have m1 := same_new (o := HO.tup [V.str p.1, .int m]) ht1
  refine ⟨_, rfl, 2, rfl, d, _, rfl, SqT.of (m1 _ _ hd), fun z => absurd z c2.2, fun _ p1 hp1 => ?_⟩
  rw [show cutV ((EV.str p.1 :: EV.int i :: r).map evV) (some 2) none = r.map evV from c2.1]
  have m2 := same_new (o := HO.tup (r.map evV)) hp1
  have m12 := m1.trans m2
  have g1 := m2 _ _ (upd_same (H := H) (a := t1) (o := HO.tup [V.str p.1, .int m]))
  have g2 : upd (upd H t1 (.tup [V.str p.1, .int m])) p1 (.tup (r.map evV)) p1 = some (.tup (r.map evV)) := upd_same
  generalize upd (upd H t1 (.tup [V.str p.1, .int m])) p1 (.tup (r.map evV)) = H2 at m12 g1 g2 ⊢
  refine ⟨t1, p1, [V.str p.1, .int m], r.map evV, rfl, rfl, SqT.of g1, SqT.of g2, Nat.le_trans (show _ ≤ 20 by simp; omega) (by decide), fun e => absurd e (by simp), fun _ e => absurd e hne, fun _ _ fa hfa => ?_⟩
  have m3 := same_new (o := HO.tup ([V.str p.1, .int m] ++ r.map evV)) hfa
  have m13 := m12.trans m3
  have gf : upd H2 fa (.tup ([V.str p.1, .int m] ++ r.map evV)) fa = some (.tup ((EV.str p.1 :: .int m :: r).map evV)) := upd_same
  generalize upd H2 fa (.tup ([V.str p.1, .int m] ++ r.map evV)) = H3 at m13 gf ⊢
  refine ⟨_, rfl, d, _, 0, .str p.1, rfl, rfl, SqT.of (m13 _ _ hd), h0, _, rfl, m, 10, rfl, rfl, ⟨by decide, by decide⟩, (by show 2 ≤ sizeLine; decide), fun t2 ht2 => ?_⟩
  have hj := near_in hm
  have ej : ∀ j, j = m / 10 → j ∈ areas := fun j e => by
    rw [e]
    exact hj
  have m4 := same_new (o := HO.tup [V.str p.1, .int (m / 10)]) ht2
  have m14 := m13.trans m4
  refine ⟨_, rfl, 2, rfl, d, _, rfl, SqT.of (m14 _ _ hd), fun z => absurd z c2.2, fun _ p2 hp2 => ?_⟩
  rw [show cutV ((EV.str p.1 :: EV.int i :: r).map evV) (some 2) none = r.map evV from c2.1]
  have m5 := same_new (o := HO.tup (r.map evV)) hp2
  have m15 := m14.trans m5
  have g4 := m5 _ _ (upd_same (H := H3) (a := t2) (o := HO.tup [V.str p.1, .int (m / 10)]))
  have gf5 := m5 _ _ (m4 _ _ gf)
  have g5 : upd (upd H3 t2 (.tup [V.str p.1, .int (m / 10)])) p2 (.tup (r.map evV)) p2 = some (.tup (r.map evV)) := upd_same
  obtain ⟨H5, hH5⟩ : ∃ H5, H5 = upd (upd H3 t2 (.tup [V.str p.1, .int (m / 10)])) p2 (.tup (r.map evV)) := ⟨_, rfl⟩
  rw [← hH5] at m15 g4 g5 gf5
  refine ⟨t2, p2, [V.str p.1, .int (m / 10)], r.map evV, rfl, rfl, SqT.of (by subst hH5; exact g4), SqT.of upd_same, Nat.le_trans (show _ ≤ 20 by simp; omega) (by decide), fun e => absurd e (by simp), fun _ e => absurd e hne, fun _ _ na hna => ?_⟩
  have hna5 : H5 na = none := by
    subst hH5
    exact hna
  have m6 := same_new (o := HO.tup ([V.str p.1, .int (m / 10)] ++ r.map evV)) hna5
  have m16 := m15.trans m6
  have gf6 := m6 _ _ gf5
  have gn : upd H5 na (.tup ([V.str p.1, .int (m / 10)] ++ r.map evV)) na = some (.tup ((EV.str p.1 :: .int (m / 10) :: r).map evV)) := upd_same
  refine ⟨(by show 2 ≤ sizeLine; decide), fun pt hpt => ?_⟩
  obtain ⟨H6, hH6⟩ : ∃ H6, H6 = upd H5 na (.tup ([V.str p.1, .int (m / 10)] ++ r.map evV)) := ⟨_, rfl⟩
  rw [← hH6] at m16 gf6 gn
  have hpt6 : H6 pt = none := by
    subst hH6 hH5
    exact hpt
  have m7 := same_new (o := HO.tup [V.ref fa, .ref na]) hpt6
  have m17 := m16.trans m7
  refine ⟨pt, [.ref fa, .ref na], rfl, SqT.of upd_same, rfl, ?_⟩
  have gf7 := m7 _ _ gf6
  have gn7 := m7 _ _ gn
  have hb7 := m17 _ _ hb
  have S7 := S.same m17
  have hd7 := m17 _ _ hd
  subst hH6 hH5
  refine ⟨_, _, rfl, _, _, rfl, rfl, ?_⟩
  exact q _ _ ⟨l, _, p, _, _, _, _, _, _, _, _, _, rfl, S7, ⟨d, rfl, hd7⟩, hp, hf, hb7, m, _, _, _, rfl, hm, hj, rfl, rfl, ⟨fa, rfl, gf7⟩, ⟨na, rfl, gn7⟩⟩
theorem hM1 (D : Lw P w K mg base CMo CD CN) (L : LmT base mg T c Pt lamQL) (hr : Room 14 (XLw P w K mg base f c A outer s H0 E).A) : HoO (α := Hp × Addr) (XLw P w K mg base f c A outer s H0 E) (stM 1) (fun i => G5 T a (rM1 i.2) i.1) (fun i => G5 T a (rM1 i.2) i.1) := by
  refine ⟨_, ps_if (PW.pt (pw_or (pt_cmpR op_ne (pe1 D L hr rfl) pe_str (nomark _)) (pw_or1 (pt_cmpR (op_neD hr.units) (pe_cl D.rd hr (by decide) (by rfl) passF (pa_cons (pe_cl D.lt hr (by decide) (by rfl) pass0 (pa_cons (pv 9) pa_nil)) pa_nil)) (pv 9) (nomark _))))) (pss_one (ps_ret pe_bl)) pss_nil, ?_⟩
  rintro ⟨Hs, b⟩ D0 σ H ⟨l, dv, p, es, s1, s3, s6, s7, s8, s9, s10, s11, rfl, S, hd, hp, hf, hb, m, j, x, y, rfl, hm, hj, rfl, rfl, hx, hy⟩ q
  refine ⟨S.tb, fun lv H2 x2 t2 la => ⟨lv, rfl, _, List.mem_singleton.mpr rfl, fun _ => rfl, la, fun Q2 E2 q1 q2 q3 => ?_⟩⟩
  refine ⟨x, rfl, ⟨_, far_tv hp hf (hx.ext x2), far_no hp hf hm⟩, fun H3 m3 => q2 H3 fun H4 m4 => ?_⟩
  have m34 := m3.trans m4
  have S4 := (S.ext x2 t2).same m34
  have hy4 := (hy.ext x2).same m34
  have hf' := near_fit hp hf hj
  refine ⟨rfl, _, rfl, iteF' (neS _) ?_⟩
  refine ⟨_, rfl, y, p, _, rfl, hy4, hp, es_ok hp hf', fun H5 m5 => ⟨_, _, rfl, tx_fit hp hf', (fun es' e => ?_), (fun e => nomatch e)⟩⟩
  cases e
  rintro v H6 m6 ⟨a6, rfl, ha6⟩
  have m46 := m5.trans m6
  have hy6 := hy4.same m46
  obtain ⟨yd, rfl, hyd⟩ := hy6
  have sh := sm_shape (sm_deed hp hf')
  refine ⟨_, rfl, _, _, dp_tup ha6, dp_tup hyd, sh, sh, _, rfl, iteF' (by rw [SeqAt.eqv_refl _ (SeqAt.canLay_of_shaped sh)]; rfl) ?_⟩
  have m36 := m34.trans m46
  exact q _ _ ⟨l, _, p, _, _, _, _, _, _, _, _, _, rfl, S4.same m46, (hd.ext x2).same m36, hp, hf, m36 _ _ (x2 _ _ hb (by intro _ z; cases z)), m, j, x, _, rfl, hm, hj, rfl, rfl, (hx.ext x2).same m36, ⟨yd, rfl, hyd⟩⟩
theorem hM2 (D : Lw P w K mg base CMo CD CN) (L : LmT base mg T c Pt lamQL) (hr : Room 14 (XLw P w K mg base f c A outer s H0 E).A) : HoO (α := Hp × Addr) (XLw P w K mg base f c A outer s H0 E) (stM 2) (fun i => G5 T a (rM1 i.2) i.1) (fun i => G5 T a (rM9 i.2) i.1) := by
  refine ⟨_, ps_if (PW.pt (pw_or (pt_cmpR op_ne (pe_cl D.dt hr (by decide) (by rfl) passF (pa_cons (pv 9) pa_nil)) (pe_cl D.lt hr (by decide) (by rfl) pass0 (pa_cons (pv 9) pa_nil)) (nomark _)) (pw_or1 (pt_cmpR op_ne (pe2 D L hr rfl) pe_str (nomark _))))) (pss_one (ps_ret pe_bl)) pss_nil, ?_⟩
  rintro ⟨Hs, b⟩ D0 σ H ⟨l, dv, p, es, s1, s3, s6, s7, s8, s9, s10, s11, rfl, S, hd, hp, hf, hb, m, j, x, y, rfl, hm, hj, rfl, rfl, hx, hy⟩ q
  have hf' := near_fit hp hf hj
  have eo := es_ok hp hf'
  refine ⟨_, rfl, y, .tup (.str p.1 :: .int j :: es.drop 1), rfl, dd_tv hp hf' hy, (fun _ => eo.2), (fun _ H1 m1 => ?_), (fun e => by rw [fit_good hp hf'] at e; cases e)⟩
  refine ⟨_, rfl, y, p, _, rfl, hy.same m1, hp, eo, fun H2 m2 => ?_⟩
  have m12 := m1.trans m2
  have S2 := S.same m12
  refine ⟨rfl, _, rfl, iteF' (neS _) ?_⟩
  refine ⟨S2.tb, fun lv H3 x3 t3 la => ⟨lv, rfl, _, List.mem_singleton.mpr rfl, fun _ => rfl, la, fun Q2 E2 q1 q2 q3 => ?_⟩⟩
  refine ⟨x, p, _, rfl, (hx.same m12).ext x3, hp, far_es hp hf hm, far_bad hp hf hm, fun d fs H4 m4 hd4 => q3 d fs H4 hd4 fun H5 m5 => ?_⟩
  have m45 := m4.trans m5
  refine ⟨rfl, _, rfl, iteF' (neS _) ?_⟩
  exact q _ _ ⟨l, _, p, _, _, _, _, _, _, _, _, _, rfl, (S2.ext x3 t3).same m45, ((hd.same m12).ext x3).same m45, hp, hf, m45 _ _ (x3 _ _ (m12 _ _ hb) (by intro _ z; cases z))⟩
theorem hA5 (D : Lw P w K mg base CMo CD CN) (L : LmT base mg T c Pt lamQL) (hr : Room 14 (XLw P w K mg base f c A outer s H0 E).A) : HoO (XLw P w K mg base f c A outer s H0 E) (stA 5) (G5 T a r0) (G5 T a r0) := by
  obtain ⟨u, hu, hq⟩ : HoF (α := Hp × Addr) (XLw P w K mg base f c A outer s H0 E) (fBody (stA 5)) (fun i => G5 T a (rM0 i.2) i.1) (fun i => G5 T a (rM9 i.2) i.1) := HoF.cons (hM0 D hr) (HoF.cons (hM1 D L hr) (HoF.cons (hM2 D L hr) HoF.nil))
  refine ⟨_, ps_for PassesOwn.never rfl (pi_list (pe_lst (pa_cons (pe_op op_pow pe_int pe_int) (pa_cons (pe_op op_sub pe_int (pe_op op_pow pe_int pe_int)) pa_nil)))) (pg_name (i := 7) scLw.nd rfl (Or.inl rfl)) hu, ?_⟩
  rintro Hs D0 σ H ⟨l, dv, p, es, s1, s3, s6, s7, s8, s9, s10, s11, rfl, S, hd, hp, hf, _⟩ q
  refine ⟨10, 60, rfl, rfl, ⟨by decide, by decide, by decide⟩, 10, 60, rfl, rfl, ⟨by decide, by decide, by decide⟩, _, _, rfl, rfl, (by show 2 ≤ sizeLine; decide), fun b hb => ?_⟩
  have m0 := same_new (o := HO.lst [V.int (10 ^ 60), .int (0 - 10 ^ 60)]) hb
  refine ⟨b, rfl, ⟨_, SqL.of upd_same⟩, for_list (K := K) (a := b) (xs := [V.int (10 ^ 60), .int (0 - 10 ^ 60)]) (fun j σ H => G5 T a (rM9 b) Hs σ H) ⟨l, dv, p, es, _, _, _, _, _, _, _, _, rfl, S.same m0, hd.same m0, hp, hf, upd_same⟩ ?_ ?_ ?_⟩
  · rintro j σ H _ ⟨l, dv, p, es, s1, s3, s6, s7, s8, s9, s10, s11, rfl, S, hd, hp, hf, hb⟩
    exact SqL.of hb
  · rintro j x σ H hx ⟨l, dv, p, es, s1, s3, s6, s7, s8, s9, s10, s11, rfl, S, hd, hp, hf, hb⟩
    obtain ⟨m, rfl, hm⟩ : ∃ m, x = .int m ∧ MM m := by
      match j, hx with
      | 0, hx =>
        cases hx
        exact ⟨_, rfl, .inl rfl⟩
      | 1, hx =>
        cases hx
        exact ⟨_, rfl, .inr (by decide)⟩
      | j + 2, hx => cases hx
    exact hq (Hs, b) _ _ _ ⟨l, dv, p, es, _, _, _, _, _, _, _, _, rfl, S, hd, hp, hf, hb, m, rfl, hm⟩ fun σ' H' h => h
  · rintro σ H ⟨l, dv, p, es, s1, s3, s6, s7, s8, s9, s10, s11, rfl, S, hd, hp, hf, hb⟩
    exact q _ _ ⟨l, dv, p, es, _, _, _, _, _, _, _, _, rfl, S, hd, hp, hf, trivial⟩
end
end K9
set_option Elab.async false
set_option linter.all false
set_option maxRecDepth 100000
set_option maxHeartbeats 8000000
set_option autoImplicit false
/-! the law, whole -/
namespace K9
open PySem PySem.Spec PyProof.Rows L2 Cm Tx Tk ErV LmB NdefX LamX
def G0 (T : List (Addr × Str)) (a : Addr) (Hs : Hp) : L2.St → Hp → Prop := fun σ H => ∃ s1 s2 s3 s4 s5 s6 s7 s8 s9 s10 s11, σ = sL a s1 s2 s3 s4 s5 s6 s7 s8 s9 s10 s11 ∧ ExtN Hs H ∧ Tabs T H
def G1 (T : List (Addr × Str)) (a : Addr) (Hs : Hp) : L2.St → Hp → Prop := fun σ H => ∃ c s2 s3 s4 s5 s6 s7 s8 s9 s10 s11, σ = sL a (some (.int c)) s2 s3 s4 s5 s6 s7 s8 s9 s10 s11 ∧ ExtN Hs H ∧ Tabs T H
/-- an odd one in the slot, of those that stand at b -/
def GO (T : List (Addr × Str)) (a : Addr) (es : List EV) (P : Hp → V → Prop) (b : Addr) (vs : List V) (Hs : Hp) (o : Bool) : L2.St → Hp → Prop := fun σ H => ∃ s1 s2 s3 s4 s5 s6 s7 s8 s9 s10 s11, σ = sL a s1 s2 s3 s4 s5 s6 s7 s8 s9 s10 s11 ∧ ExtN Hs H ∧ Tabs T H ∧ H b = some (.lst vs) ∧ Paired (EvAt H) vs es ∧ (o = true → ∃ v, s11 = some v ∧ P H v)
def odd9 : List EV := [.oth, .int 5, .str "A", .str "", .str "a b", .str "ninesigns", .str "one\n", .oth, .oth]
def odd10 : List EV := [.oth, .int 5, .bl true, .str "", .str " ", .oth, .oth, .oth, .str "unmount", .str "bind all 0 /a /b"]
theorem odd9_no : ∀ e ∈ odd9, goodT (.tup [.str "mount", .int 0, e, .str "/a"]) = false := by decide +kernel
theorem bad_no {z v : Str} {ws : List Str} (h1 : z.length ≤ 90000) (h : Txt.split z " " = v :: ws) (hu : unhy v = none) : Bad9 z := by
  refine ⟨h1, ?_, ?_⟩
  · rw [h]
    exact wsOk_no hu
  · rw [h]
    exact readW_none hu
theorem bad_len {z : Str} {p : Str × List Str} {ws : List Str} (h1 : z.length ≤ 90000) (hp : p ∈ formsL) (h : Txt.split z " " = hyW p.1 :: ws) (hl : ws.length ≠ p.2.length) : Bad9 z := by
  refine ⟨h1, ?_, ?_⟩
  · rw [h]
    exact wsOk_len hp hl
  · rw [h]
    exact read_len hp hl
theorem odd10_no : ∀ e ∈ odd10, ∀ z, e = .str z → Bad9 z := by
  have b1 : Bad9 ("" : Str) := bad_no (v := "") (ws := []) (by decide +kernel) (by decide +kernel) (by decide +kernel)
  have b2 : Bad9 (" " : Str) := bad_no (v := "") (ws := [("" : Str)]) (by decide +kernel) (by decide +kernel) (by decide +kernel)
  have b3 : Bad9 ("unmount" : Str) := bad_len (p := ("unmount", ["space", "path"])) (ws := []) (by decide +kernel) (by decide +kernel) (by decide +kernel) (by decide)
  have b4 : Bad9 ("bind all 0 /a /b" : Str) := bad_len (p := ("bind", ["space", "path", "path"])) (ws := (["all", "0", "/a", "/b"] : List Str)) (by decide +kernel) (by decide +kernel) (by decide +kernel) (by decide)
  intro e he z ez
  subst ez
  simp only [odd10, List.mem_cons, List.not_mem_nil, or_false, reduceCtorEq, false_or, EV.str.injEq] at he
  rcases he with rfl | rfl | rfl | rfl
  · exact b1
  · exact b2
  · exact b3
  · exact b4
section
variable {P : Program} {w : World} {K : PySem.W.Frag} {mg : Str → Option Value} {base : Heap} {f c Pt : Addr} {A : Around} {outer : List Env} {s : Shared} {H0 : Hp} {E : XK} {CMo CD CN a : Addr} {T : List (Addr × Str)}
theorem hO0 (hr : Room 14 (XLw P w K mg base f c A outer s H0 E).A) : HoO (XLw P w K mg base f c A outer s H0 E) (stO 0) (G1 T a) (G2 T a) := by
  refine ⟨_, ps_set (i := 2) scLw.nd rfl (.inl rfl) (pe_lst (pa_cons (pv 1) pa_nil)), ?_⟩
  rintro Hs D0 σ H ⟨c, s2, s3, s4, s5, s6, s7, s8, s9, s10, s11, rfl, ex, tb⟩ q
  refine ⟨_, rfl, (by show 1 ≤ sizeLine; decide), fun l hl => ?_⟩
  have m := same_new (o := HO.lst [V.int c]) hl
  exact q _ _ ⟨l, _, _, _, _, _, _, _, _, _, _, rfl, ⟨_, upd_same, .inl ⟨c, rfl⟩⟩, fsh_of ex hl, ex.trans (ExtN.of m), tb.ext m⟩
theorem hO1 (D : Lw P w K mg base CMo CD CN) (L : LmT base mg T c Pt lamQL) (hr : Room 14 (XLw P w K mg base f c A outer s H0 E).A) (hg : (XLw P w K mg base f c A outer s H0 E).A.guards = some []) : HoO (XLw P w K mg base f c A outer s H0 E) (stO 1) (G2 T a) (G0 T a) := by
  obtain ⟨u, hu, hq⟩ : HoF (XLw P w K mg base f c A outer s H0 E) (fBody (stO 1)) (G2 T a) (G2 T a) := HoF.cons (hA0 D hr) (HoF.cons (hA1 D hr) (HoF.cons (hA2 D hr hg) (HoF.cons (hA3 D hr) (HoF.cons (hA4 D L hr) (HoF.cons (hA5 D L hr) (HoF.cons (hA6 D hr) (HoF.cons (hA7 D L hr) HoF.nil)))))))
  refine ⟨_, ps_for PassesOwn.never rfl (pi_range1 (by rfl) D.B.range (pa_cons pe_int pa_nil)) (pg_name (i := 3) scLw.nd rfl (Or.inl rfl)) hu, ?_⟩
  rintro Hs D0 σ H ⟨l, s1, s3, s4, s5, s6, s7, s8, s9, s10, s11, rfl, S⟩ q
  refine ⟨5, rfl, by decide, by decide, for_it walk_range (fun j σ H => G2 T a Hs σ H) ⟨l, _, _, _, _, _, _, _, _, _, _, rfl, S⟩ (fun _ _ _ _ _ => True.intro) ?_ ?_⟩
  · rintro j y σ H2 H3 hj ⟨l, s1, s3, s4, s5, s6, s7, s8, s9, s10, s11, rfl, S⟩ ⟨rfl, rfl⟩
    exact hq Hs _ _ _ ⟨l, _, _, _, _, _, _, _, _, _, _, rfl, S⟩ fun σ' H' h => h
  · rintro σ H2 ⟨l, s1, s3, s4, s5, s6, s7, s8, s9, s10, s11, rfl, S⟩
    exact q _ _ ⟨_, _, _, _, _, _, _, _, _, _, _, rfl, S.ex, S.tb⟩
theorem hB4 (D : Lw P w K mg base CMo CD CN) (L : LmT base mg T c Pt lamQL) (hr : Room 14 (XLw P w K mg base f c A outer s H0 E).A) : HoF (α := Addr × List V × Hp) (XLw P w K mg base f c A outer s H0 E) (fBody (stO 2)) (fun i => GO T a odd9 OddT i.1 i.2.1 i.2.2 true) (fun i => GO T a odd9 OddT i.1 i.2.1 i.2.2 false) := by
  refine ⟨_, pss_one (ps_if (pt_cmpR op_ne (pe4 D L hr rfl) pe_str (nomark _)) (pss_one (ps_ret pe_bl)) pss_nil), ?_⟩
  rintro ⟨b, vs, Hs⟩ D0 σ H ⟨s1, s2, s3, s4, s5, s6, s7, s8, s9, s10, s11, rfl, ex, tb, hb, pd, ho⟩ q
  obtain ⟨v, rfl, e, he, hn⟩ := ho rfl
  refine ⟨tb, fun lv H2 x2 t2 la => ⟨lv, rfl, _, List.mem_singleton.mpr rfl, fun _ => rfl, la, fun Q2 E2 q1 q2 q3 => ?_⟩⟩
  refine ⟨v, rfl, ⟨e, ev_ext he x2, hn⟩, fun H3 m3 => q2 H3 fun H4 m4 => ?_⟩
  have xx := x2.trans (ExtN.of (m3.trans m4))
  exact ⟨rfl, _, rfl, iteF' (neS _) (q _ _ ⟨_, _, _, _, _, _, _, _, _, _, _, rfl, ex.trans xx, t2.ext (m3.trans m4), xx _ _ hb (by intro _ z; cases z), pd_ext xx pd, fun z => nomatch z⟩)⟩
theorem hB5 (D : Lw P w K mg base CMo CD CN) (L : LmT base mg T c Pt lamQL) (hr : Room 14 (XLw P w K mg base f c A outer s H0 E).A) : HoF (α := Addr × List V × Hp) (XLw P w K mg base f c A outer s H0 E) (fBody (stO 3)) (fun i => GO T a odd10 OddN i.1 i.2.1 i.2.2 true) (fun i => GO T a odd10 OddN i.1 i.2.1 i.2.2 false) := by
  refine ⟨_, pss_one (ps_if (pt_cmpR op_ne (pe5 D L hr rfl) pe_str (nomark _)) (pss_one (ps_ret pe_bl)) pss_nil), ?_⟩
  rintro ⟨b, vs, Hs⟩ D0 σ H ⟨s1, s2, s3, s4, s5, s6, s7, s8, s9, s10, s11, rfl, ex, tb, hb, pd, ho⟩ q
  obtain ⟨v, rfl, e, he, hn⟩ := ho rfl
  refine ⟨tb, fun lv H2 x2 t2 la => ⟨lv, rfl, _, List.mem_singleton.mpr rfl, fun _ => rfl, la, fun Q2 E2 q1 q2 q3 => ?_⟩⟩
  refine ⟨v, rfl, ⟨e, ev_ext he x2, hn⟩, fun d fs H3 m3 hd => q3 d fs H3 hd fun H4 m4 => ?_⟩
  have xx := x2.trans (ExtN.of (m3.trans m4))
  exact ⟨rfl, _, rfl, iteF' (neS _) (q _ _ ⟨_, _, _, _, _, _, _, _, _, _, _, rfl, ex.trans xx, t2.ext (m3.trans m4), xx _ _ hb (by intro _ z; cases z), pd_ext xx pd, fun z => nomatch z⟩)⟩
/-- the loop over the odd ones -/
theorem loopO {u : TS} {es : List EV} {Pr : Hp → V → Prop} (hq : ∀ (i : Addr × List V × Hp) (D : Ends) σ H, GO T a es Pr i.1 i.2.1 i.2.2 true σ H → (∀ σ' H', GO T a es Pr i.1 i.2.1 i.2.2 false σ' H' → D.nx σ' H') → u D σ H) (hp : ∀ e ∈ es, ∀ H v, EvAt H v e → Pr H v)
    {b : Addr} {vs : List V} {Hs H : Hp} {D0 : Ends} {σ : L2.St} (h0 : GO T a es Pr b vs Hs false σ H) (q : ∀ σ' H', G0 T a Hs σ' H' → D0.nx σ' H') :
    ∃ W : Nat → Nat → L2.St → Hp → Prop, (∃ m, W 0 m σ H) ∧ ∀ i m σ H, W i m σ H →
      ((Itl K b).stop i H ∧ D0.nx σ H) ∨ ((Itl K b).go i H ∧ ∃ N : L2.St → Hp → Prop, (∀ σ' H', N σ' H' → ∃ m', m' < m ∧ W (i + 1) m' σ' H') ∧ ∀ x H', (Itl K b).yld i H x H' → gName 11 x σ H' fun σ2 H2 => u { D0 with nx := N, ct := N, bk := D0.nx } σ2 H2) := by
  refine for_list (K := K) (a := b) (xs := vs) (fun j σ H => GO T a es Pr b vs Hs false σ H) h0 ?_ ?_ ?_
  · rintro j σ H _ ⟨s1, s2, s3, s4, s5, s6, s7, s8, s9, s10, s11, rfl, ex, tb, hb, pd, ho⟩
    exact SqL.of hb
  · rintro j x σ H hx ⟨s1, s2, s3, s4, s5, s6, s7, s8, s9, s10, s11, rfl, ex, tb, hb, pd, ho⟩
    have hlt : j < es.length := by
      have := (List.getElem?_eq_some_iff.mp hx).1
      rw [Paired.length pd] at this
      exact this
    obtain ⟨x', hx', he⟩ := pd_get pd (List.getElem?_eq_getElem hlt)
    cases hx.symm.trans hx'
    exact hq (b, vs, Hs) _ _ _ ⟨_, _, _, _, _, _, _, _, _, _, _, rfl, ex, tb, hb, pd, fun _ => ⟨x, rfl, hp _ (List.getElem_mem hlt) H x he⟩⟩ fun σ' H' h => h
  · rintro σ H ⟨s1, s2, s3, s4, s5, s6, s7, s8, s9, s10, s11, rfl, ex, tb, hb, pd, ho⟩
    exact q _ _ ⟨_, _, _, _, _, _, _, _, _, _, _, rfl, ex, tb⟩
theorem hO2 (D : Lw P w K mg base CMo CD CN) (L : LmT base mg T c Pt lamQL) (hr : Room 14 (XLw P w K mg base f c A outer s H0 E).A) : HoO (XLw P w K mg base f c A outer s H0 E) (stO 2) (G0 T a) (G0 T a) := by
  obtain ⟨u, hu, hq⟩ := hB4 (a := a) D L hr
  refine ⟨_, ps_for PassesOwn.never rfl (pi_list (pe_lst (pa_cons pe_non (pa_cons pe_int (pa_cons pe_str (pa_cons pe_str (pa_cons pe_str (pa_cons pe_str (pa_cons pe_str (pa_cons (pe_lst (pa_cons pe_str pa_nil)) (pa_cons pe_dnewK pa_nil))))))))))) (pg_name (i := 11) scLw.nd rfl (Or.inr rfl)) hu, ?_⟩
  rintro Hs D0 σ H ⟨s1, s2, s3, s4, s5, s6, s7, s8, s9, s10, s11, rfl, ex, tb⟩ q
  refine ⟨(by show 1 ≤ sizeLine; decide), fun p1 h1 => fun p2 h2 => ⟨(by show 9 ≤ sizeLine; decide), fun b hb => ?_⟩⟩
  have m1 := same_new (o := HO.lst [V.str "one"]) h1
  have m2 := same_new (o := HO.dK []) h2
  have m3 := same_new (o := HO.lst [V.non, .int 5, .str "A", .str "", .str "a b", .str "ninesigns", .str "one\n", .ref p1, .ref p2]) hb
  have g1 := m3 _ _ (m2 _ _ (upd_same (H := H) (a := p1) (o := HO.lst [V.str "one"])))
  have g2 := m3 _ _ (upd_same (H := upd H p1 (HO.lst [V.str "one"])) (a := p2) (o := HO.dK []))
  have mm := (m1.trans m2).trans m3
  have st : ∀ z : Str, z.length ≤ 100 → ∀ H, EvAt H (.str z) (.str z) := fun z hz H => ⟨rfl, Nat.le_trans hz (by decide)⟩
  exact ⟨b, rfl, ⟨_, SqL.of upd_same⟩, loopO hq (fun e he H v hv => ⟨e, hv, odd9_no e he⟩) ⟨_, _, _, _, _, _, _, _, _, _, _, rfl, ex.trans (ExtN.of mm), tb.ext mm, upd_same, .cons (.inl rfl) (.cons rfl (.cons (st _ (by decide +kernel) _) (.cons (st _ (by decide +kernel) _) (.cons (st _ (by decide +kernel) _) (.cons (st _ (by decide +kernel) _) (.cons (st _ (by decide +kernel) _) (.cons (.inr ⟨p1, rfl, .inl ⟨_, g1⟩⟩) (.cons (.inr ⟨p2, rfl, .inr (.inr ⟨_, g2⟩)⟩) .nil)))))))), fun z => nomatch z⟩ q⟩
theorem hO3 (D : Lw P w K mg base CMo CD CN) (L : LmT base mg T c Pt lamQL) (hr : Room 14 (XLw P w K mg base f c A outer s H0 E).A) : HoO (XLw P w K mg base f c A outer s H0 E) (stO 3) (G0 T a) (G0 T a) := by
  obtain ⟨u, hu, hq⟩ := hB5 (a := a) D L hr
  refine ⟨_, ps_for PassesOwn.never rfl (pi_list (pe_lst (pa_cons pe_non (pa_cons pe_int (pa_cons pe_bl (pa_cons pe_str (pa_cons pe_str (pa_cons (pe_lst (pa_cons pe_str pa_nil)) (pa_cons (pe_tup (pa_cons pe_str (pa_cons pe_int (pa_cons pe_str pa_nil)))) (pa_cons pe_dnewK (pa_cons pe_str (pa_cons pe_str pa_nil)))))))))))) (pg_name (i := 11) scLw.nd rfl (Or.inr rfl)) hu, ?_⟩
  rintro Hs D0 σ H ⟨s1, s2, s3, s4, s5, s6, s7, s8, s9, s10, s11, rfl, ex, tb⟩ q
  refine ⟨(by show 1 ≤ sizeLine; decide), fun p1 h1 => ⟨(by show 3 ≤ sizeLine; decide), fun p2 h2 => fun p3 h3 => ⟨(by show 10 ≤ sizeLine; decide), fun b hb => ?_⟩⟩⟩
  have m1 := same_new (o := HO.lst [V.str "mount"]) h1
  have m2 := same_new (o := HO.tup [V.str "unmount", .int 0, .str "/a"]) h2
  have m3 := same_new (o := HO.dK []) h3
  have m4 := same_new (o := HO.lst [V.non, .int 5, .bl true, .str "", .str " ", .ref p1, .ref p2, .ref p3, .str "unmount", .str "bind all 0 /a /b"]) hb
  have m34 := m3.trans m4
  have g1 := m34 _ _ (m2 _ _ (upd_same (H := H) (a := p1) (o := HO.lst [V.str "mount"])))
  have g2 := m34 _ _ (upd_same (H := upd H p1 (HO.lst [V.str "mount"])) (a := p2) (o := HO.tup [V.str "unmount", .int 0, .str "/a"]))
  have g3 := m4 _ _ (upd_same (H := upd (upd H p1 (HO.lst [V.str "mount"])) p2 (HO.tup [V.str "unmount", .int 0, .str "/a"])) (a := p3) (o := HO.dK []))
  have mm := (m1.trans m2).trans m34
  have st : ∀ z : Str, z.length ≤ 100 → ∀ H, EvAt H (.str z) (.str z) := fun z hz H => ⟨rfl, Nat.le_trans hz (by decide)⟩
  exact ⟨b, rfl, ⟨_, SqL.of upd_same⟩, loopO hq (fun e he H v hv => ⟨e, hv, odd10_no e he⟩) ⟨_, _, _, _, _, _, _, _, _, _, _, rfl, ex.trans (ExtN.of mm), tb.ext mm, upd_same, .cons (.inl rfl) (.cons rfl (.cons rfl (.cons (st _ (by decide +kernel) _) (.cons (st _ (by decide +kernel) _) (.cons (.inr ⟨p1, rfl, .inl ⟨_, g1⟩⟩) (.cons (.inr ⟨p2, rfl, .inr (.inl ⟨_, g2⟩)⟩) (.cons (.inr ⟨p3, rfl, .inr (.inr ⟨_, g3⟩)⟩) (.cons (st _ (by decide +kernel) _) (.cons (st _ (by decide +kernel) _) .nil))))))))), fun z => nomatch z⟩ q⟩
end
section
variable {P : Program} {w : World} {K : PySem.W.Frag} {mg : Str → Option Value} {base : Heap} {f c Pt : Addr} {A : Around} {outer : List Env} {s : Shared} {H : Hp} {CMo CD CN a : Addr} {T : List (Addr × Str)} {ns : List Int}
theorem run_law {oc : Value} {od an : Option Addr} {dV kV doc pm ct : Value} {osl : Array (Option Value)}
    (lk : K.lookup f = some ⟨oc, od, .func (PySem.W.fnOf "law" "law" (defArgs sLaw) (defBody sLaw) (defScope sLaw) dV kV doc pm an (.ref c) ct), osl⟩) (hcd : PySem.W.codeIn K (.ref c) "law" = true) (D : Lw P w K mg base CMo CD CN) (L : LmT base mg T c Pt lamQL)
    (hr : Room 15 A) (hg : A.guards = some []) (e0 : Env0 P w K mg base A outer s H) (hb : BindsTo s (PySem.W.fnOf "law" "law" (defArgs sLaw) (defBody sLaw) (defScope sLaw) dV kV doc pm an (.ref c) ct) ⟨[.ref a], []⟩ [("_law_script", .ref a)])
    (hS : SqL K H a (ns.map V.int)) (hlen : ns.length ≤ 63) (tb : Tabs T H) : codeAny (model P w) A (.call (.ref f) ⟨[.ref a], []⟩) (CR CX0 outer P w H s (fun v _ => v = .bl true) fun _ _ _ => False) s := by
  refine run_ofS (N := nLw) (ps := ["_law_script"]) (us := [.ref a]) (vs := [.ref a]) lk hcd scLw hr e0 hb (.cons rfl .nil) rfl fun hr' => ?_
  have hr2 : Room 14 (XLw P w K mg base f c A outer s H (fun _ _ _ => False)).A := hr'
  obtain ⟨u, hu, hq⟩ : HoF (XLw P w K mg base f c A outer s H (fun _ _ _ => False)) (fBody ((defBody sLaw).getD 0 st0)) (G1 T a) (G0 T a) := HoF.cons (hO0 hr2) (HoF.cons (hO1 D L hr2 hg) (HoF.cons (hO2 D L hr2) (HoF.cons (hO3 D L hr2) HoF.nil)))
  refine ⟨_, PSs.nox (X := cxOf CX0 P w K mg base nLw "law" (defScope sLaw) f (.ref c) A outer s H (fun _ _ _ => False)) (pss_cons (ps_for PassesOwn.never rfl (pi_list (pe_op op_cat (pe_lst (pa_cons (pe_cl D.cel hr2 (by decide) (by rfl) pass0 (pa_cons (pv 0) (pa_cons pe_int pa_nil))) pa_nil)) (pe_slice sl_list (pv 0) (po_some pe_int) (po_some pe_int)))) (pg_name (i := 1) scLw.nd rfl (Or.inl rfl)) hu) (pss_one (ps_ret pe_bl))), ?_⟩
  refine ⟨_, rfl, a, ns, 0, rfl, hS, fun i0 _ => ⟨(by show 1 ≤ sizeLine; decide), fun p1 h1 => ?_⟩⟩
  have m1 := same_new (o := HO.lst [V.int i0]) h1
  refine ⟨_, rfl, 1, rfl, 8, rfl, a, _, rfl, m1.seq hS, fun p2 h2 => ?_⟩
  have m2 := same_new (o := HO.lst (cutV (ns.map V.int) (some 1) (some 8))) h2
  have hcl : (cutV (ns.map V.int) (some 1) (some 8)).length ≤ 63 := by
    unfold cutV
    rw [List.length_take, List.length_drop, List.length_map]
    omega
  refine ⟨p1, p2, _, _, rfl, rfl, m2 _ _ upd_same, upd_same, Nat.le_trans (show 1 + _ ≤ 64 by omega) (by decide), fun b hb => ?_⟩
  have m3 := same_new (o := HO.lst ([V.int i0] ++ cutV (ns.map V.int) (some 1) (some 8))) hb
  have mm := (m1.trans m2).trans m3
  have hi : ∀ x ∈ [V.int i0] ++ cutV (ns.map V.int) (some 1) (some 8), ∃ i, x = .int i := fun x hx => by
    rcases List.mem_append.mp hx with hx | hx
    · exact ⟨i0, List.mem_singleton.mp hx⟩
    · unfold cutV at hx
      obtain ⟨i, _, e⟩ := List.mem_map.mp (List.mem_of_mem_drop (List.mem_of_mem_take hx))
      exact ⟨i, e.symm⟩
  have gb : upd (upd (upd H p1 (.lst [V.int i0])) p2 (.lst (cutV (ns.map V.int) (some 1) (some 8)))) b (.lst ([V.int i0] ++ cutV (ns.map V.int) (some 1) (some 8))) b = some (.lst ([V.int i0] ++ cutV (ns.map V.int) (some 1) (some 8))) := upd_same
  generalize upd (upd (upd H p1 (.lst [V.int i0])) p2 (.lst (cutV (ns.map V.int) (some 1) (some 8)))) b (.lst ([V.int i0] ++ cutV (ns.map V.int) (some 1) (some 8))) = H3 at mm gb ⊢
  refine ⟨b, rfl, ⟨_, SqL.of gb⟩, for_list (K := K) (a := b) (xs := [V.int i0] ++ cutV (ns.map V.int) (some 1) (some 8)) (fun j σ H => G0 T a H3 σ H) ⟨_, _, _, _, _, _, _, _, _, _, _, rfl, ExtN.refl _, tb.ext mm⟩ ?_ ?_ ?_⟩
  · rintro j σ H4 _ ⟨s1, s2, s3, s4, s5, s6, s7, s8, s9, s10, s11, rfl, ex, tb⟩
    exact SqL.of (ex _ _ gb (by intro _ z; cases z))
  · rintro j x σ H4 hx ⟨s1, s2, s3, s4, s5, s6, s7, s8, s9, s10, s11, rfl, ex, tb⟩
    obtain ⟨i, rfl⟩ := hi x (List.mem_of_getElem? hx)
    exact hq H3 _ _ _ ⟨i, _, _, _, _, _, _, _, _, _, _, rfl, ex, tb⟩ fun σ' H' h => h
  · intro σ H4 _
    rfl
end
end K9
set_option Elab.async false
set_option linter.all false
set_option maxRecDepth 100000
set_option maxHeartbeats 4000000
set_option autoImplicit false
/-! the end of a law whose own run is told only where nothing runs around it (repr asks that) -/
namespace Eg
open PySem PySem.Spec PyProof.Rows L2 LamX
/-- what stands when the law is called -/
structure Top (K : PySem.W.Frag) (mg mb : Str → Option Value) (tabs : List (Addr × Addr)) (a : Addr) (vs : List Value) (ns : List Int) (s : Shared) : Prop where
  k : K.In s.heap
  g : s.heap.Ns mainGlobals mg
  b : s.heap.Ns builtinsNs mb
  bb : ∀ y : Str, y ≠ "__name__" → mb y = bootBuiltins y
  lim : s.heap.NoLimit
  gen : s.gens = #[]
  tb : ∀ p ∈ tabs, s.heap.get? p.2 = some { cls := .none, data := .fields #[] }
  no : ∀ p ∈ tabs, K.lookup p.2 = none
  cd : ∀ p ∈ tabs, PySem.W.CodeHd s.heap p.1 p.2
  bm : ∃ (bm : Addr) (ob : Obj), mg "__builtins__" = some (.ref bm) ∧ bm ≠ builtinsNs ∧ s.heap.get? bm = some ob ∧ ob.cls = .type "module" ∧ ob.dict = some builtinsNs ∧ ob.data = .plain
  obj : s.heap.get? a = some { cls := .type "list", data := .seq vs.toArray }
  int : IntsAre vs ns
  few : ns.length ≤ sizeLine
/-- the tables, and the script where K does not tell it -/
def H9 (K : PySem.W.Frag) (tabs : List (Addr × Addr)) (a : Addr) (vs : List Value) (ns : List Int) : Hp := fun b =>
  if b ∈ tabs.map (·.2) then some (.tbl #[])
  else if b = a ∧ K.lookup a = none then some (.frz { cls := .type "list", data := .seq vs.toArray } (.lst (ns.map V.int)))
  else none
section
variable {P : Program} {w : World} {K : PySem.W.Frag} {mg mb : Str → Option Value} {tabs : List (Addr × Addr)} {a : Addr} {vs : List Value} {ns : List Int} {s : Shared}
theorem H9.seen {b : Addr} {u : HO} (h : H9 K tabs a vs ns b = some u) : (b ∈ tabs.map (·.2) ∧ u = .tbl #[]) ∨ (b ∉ tabs.map (·.2) ∧ b = a ∧ K.lookup a = none ∧ u = .frz { cls := .type "list", data := .seq vs.toArray } (.lst (ns.map V.int))) := by
  unfold H9 at h
  split at h
  · next m => exact .inl ⟨m, (Option.some.inj h).symm⟩
  · next m =>
    split at h
    · next z => exact .inr ⟨m, z.1, z.2, (Option.some.inj h).symm⟩
    · cases h
theorem H9.tab {p : Addr × Addr} (h : p ∈ tabs) : H9 K tabs a vs ns p.2 = some (.tbl #[]) := if_pos (List.mem_map.mpr ⟨p, h, rfl⟩)
namespace Top
theorem tabA (S : Top K mg mb tabs a vs ns s) {b : Addr} (h : b ∈ tabs.map (·.2)) : s.heap.get? b = some { cls := .none, data := .fields #[] } := by
  obtain ⟨q, hq, rfl⟩ := List.mem_map.mp h
  exact S.tb q hq
theorem a_no (S : Top K mg mb tabs a vs ns s) : a ∉ tabs.map (·.2) := fun h => by
  have e := (S.tabA h).symm.trans S.obj
  cases e
/-- what is neither a sequence nor an empty table isn't tracked -/
theorem off (S : Top K mg mb tabs a vs ns s) {b : Addr} {o : Obj} (e : s.heap.get? b = some o) (h1 : ∀ ps n, o.data = .seq ps n → False) (h2 : o.data = .fields #[] → False) : H9 K tabs a vs ns b = none := by
  match q : H9 K tabs a vs ns b with
  | none => rfl
  | some u =>
    rcases H9.seen q with ⟨m, _⟩ | ⟨_, rfl, _, _⟩
    · have z := e.symm.trans (S.tabA m)
      cases z
      exact (h2 rfl).elim
    · have z := e.symm.trans S.obj
      cases z
      exact (h1 _ _ rfl).elim
theorem keep (S : Top K mg mb tabs a vs ns s) {b : Addr} {o : Obj} (e : s.heap.get? b = some o) (h1 : ∀ ps n, o.data = .seq ps n → False) (h2 : o.data = .fields #[] → False) : (hidT s.heap (H9 K tabs a vs ns)).get? b = some o := hidT_get e (S.off e h1 h2)
theorem nsS (S : Top K mg mb tabs a vs ns s) {b : Addr} {m : Str → Option Value} (h : s.heap.Ns b m) : (hidT s.heap (H9 K tabs a vs ns)).Ns b m := by
  obtain ⟨o, es, ep, e, d, r⟩ := h
  exact ⟨o, es, ep, S.keep e (fun ps n z => by rw [d] at z; cases z) (fun z => by rw [d] at z; cases z), d, r⟩
theorem kin (S : Top K mg mb tabs a vs ns s) : K.In (hidT s.heap (H9 K tabs a vs ns)) := by
  intro b o e
  refine hidT_get (S.k b o e) ?_
  match q : H9 K tabs a vs ns b with
  | none => rfl
  | some u =>
    rcases H9.seen q with ⟨m, _⟩ | ⟨_, rfl, z, _⟩
    · obtain ⟨p, hp, rfl⟩ := List.mem_map.mp m
      rw [S.no p hp] at e
      cases e
    · rw [z] at e
      cases e
theorem sq (S : Top K mg mb tabs a vs ns s) : SqL K (H9 K tabs a vs ns) a (ns.map V.int) := by
  have rv := vals_ints S.int
  match hk : K.lookup a with
  | none => exact .inl (.inr ⟨_, (if_neg S.a_no).trans (if_pos ⟨rfl, hk⟩)⟩)
  | some o =>
    have e := (S.k a o hk).symm.trans S.obj
    cases e
    refine .inr ⟨_, vs.toArray, _, hk, rfl, rfl, rfl, ?_, rv⟩
    rw [List.size_toArray, S.int.length]
    exact S.few
theorem hok (S : Top K mg mb tabs a vs ns s) : HOk P w (H9 K tabs a vs ns) s.heap := fun b u h => by
  rcases H9.seen h with ⟨m, rfl⟩ | ⟨_, rfl, _, rfl⟩
  · exact S.tabA m
  · exact ⟨S.obj, by rw [List.length_map]; exact S.few, vs, _, vals_ints S.int, S.obj⟩
theorem tbB (S : Top K mg mb tabs a vs ns s) {p : Addr × Addr} (hp : p ∈ tabs) : TabB (hidT s.heap (H9 K tabs a vs ns)) mg p.1 p.2 := by
  have hT := S.tb p hp
  have nG : mainGlobals ≠ p.2 := fun z => by
    obtain ⟨o, es, ep, e, d, _⟩ := S.g
    rw [z] at e
    cases e.symm.trans hT
    cases d
  refine ⟨?_, ?_, nG⟩
  · obtain ⟨o, us, fl, tf, gs, tg, nf, tx, tt, e, c1, c2, c3, more⟩ := S.cd p hp
    refine ⟨o, us, fl, tf, gs, tg, nf, tx, tt, S.keep e (fun ps n z => by rw [c2] at z; cases z) (fun z => ?_), c1, c2, c3, more⟩
    rw [c2] at z
    cases z
    cases c3
  · obtain ⟨bm, ob, e1, e2, e3, e4, e5, e6⟩ := S.bm
    refine ⟨bm, ob, e1, e2, fun z => ?_, fun z => ?_, S.keep e3 (fun ps n z => by rw [e6] at z; cases z) (fun z => by rw [e6] at z; cases z), e4, e5, e6⟩
    · obtain ⟨o, es, ep, e, d, _⟩ := S.g
      rw [z] at e3
      cases e.symm.trans e3
      rw [d] at e6
      cases e6
    · rw [z] at e3
      cases hT.symm.trans e3
      cases e6
theorem env (S : Top K mg mb tabs a vs ns s) : Env0 P w K mg (hidT s.heap (H9 K tabs a vs ns)) callerA [] s (H9 K tabs a vs ns) where
  frames := rfl
  mod := by
    obtain ⟨mc, l1, l2⟩ := S.lim
    exact ⟨S.kin, S.nsS S.g, ⟨mb, S.nsS S.b, S.bb⟩, ⟨mc, S.nsS l1, l2⟩⟩
  bs := fun _ _ h => of_hidT h
  bsz := Nat.le_of_eq (hidT_size _ _)
  funs := True.intro
  frf := fun b h => nomatch (show b ∈ ([] : List Addr) from h)
  hok := S.hok
  bare := .of_eq S.gen
/-- from the law's run to the claim's end -/
theorem fin (S : Top K mg mb tabs a vs ns s) {fa : Addr} (R : codeAny (model P w) callerA (.call (.ref fa) ⟨[.ref a], []⟩) (CR CX0 [] P w (H9 K tabs a vs ns) s (fun v _ => v = .bl true) fun _ _ _ => False) s) :
    codeAny (model P w) callerA (.call (.ref fa) ⟨[.ref a], []⟩) (fun r t => r = .ok (.ret (.bool true)) ∧ OldK s.heap t.heap ∧ t.os = s.os ∧ AllBare t.gens) s := by
  refine codeAny_mono R fun r t h => ?_
  match r, h with
  | .error e, h => exact h.elim
  | .ok .next, h => exact h.elim
  | .ok .brk, h => exact h.elim
  | .ok .cont, h => exact h.elim
  | .ok (.ret u), h =>
    obtain ⟨v, H', os, bare, un, ok, rv, hv⟩ := h
    cases (show v = .bl true from hv)
    cases (show u = Value.bool true from rv)
    have rest : ∀ b o, b ∉ tabs.map (·.2) → s.heap.get? b = some o → t.heap.get? b = some o := fun b o nb e => by
      match q : H9 K tabs a vs ns b with
      | none => exact un.keep b o e q (fun z => nomatch (show b ∈ ([] : List Addr) from z)) (fun z => nomatch z)
      | some x =>
        rcases H9.seen q with ⟨m, _⟩ | ⟨_, _, _, rfl⟩
        · exact absurd m nb
        · have k1 := (S.hok (P := P) (w := w) b _ q).1
          have k2 := (ok b _ (un.frzs b _ _ q)).1
          exact (k2.trans k1.symm).trans e
    have more : ∀ p ∈ tabs, ∃ ps : Array Value, t.heap.get? p.2 = some { cls := .none, data := .fields ps } := fun p hp => by
      obtain ⟨ps, z⟩ := un.tbls p.2 _ (H9.tab hp)
      exact ⟨_, ok p.2 _ z⟩
    refine ⟨rfl, ⟨fun b o e => ?_, fun b o e => ?_⟩, os, bare⟩
    · by_cases m : b ∈ tabs.map (·.2)
      · obtain ⟨p, hp, rfl⟩ := List.mem_map.mp m
        obtain ⟨ps, z⟩ := more p hp
        cases e.symm.trans (S.tb p hp)
        exact .inr (.inl ⟨((S.cd p hp).tab (S.tb p hp)).isCodeTable, rfl, #[], ps, rfl, by rw [Array.empty_append]; exact z⟩)
      · exact .inl (rest b o m e)
    · by_cases m : b ∈ tabs.map (·.2)
      · obtain ⟨p, hp, rfl⟩ := List.mem_map.mp m
        obtain ⟨ps, z⟩ := more p hp
        exact ⟨_, z⟩
      · exact ⟨o, rest b o m e⟩
end Top
end
theorem walk_ofG {l : PySem.W.OpenLaw} {n : Nat} {q : Program} {loose : List Str} {XP : (Str → Option Value) → Heap → Prop} {YP : World → Heap → Prop} {d : DefRec} (hn : l.most = some n) (hn2 : n ≤ sizeLine) (hdf : d.params.defaults = [])
    (F : ∀ (w : World) (mg : Str → Option Value) (fa : Addr) (h : Heap), YP w h → h.Ns mainGlobals mg → mg d.name = some (.ref fa) → ∃ (K : PySem.W.Frag) (tabs : List (Addr × Addr)), K.In h ∧ (∀ p ∈ tabs, h.get? p.2 = some { cls := .none, data := .fields #[] }) ∧ (∀ p ∈ tabs, K.lookup p.2 = none) ∧ (∀ p ∈ tabs, PySem.W.CodeHd h p.1 p.2) ∧
      ∀ (base : Heap) (s : Shared) (H : Hp) (a : Addr) (ns : List Int), K.In base → base.Ns mainGlobals mg → (∀ p ∈ tabs, TabB base mg p.1 p.2) → Env0 l.prog w K mg base callerA [] s H → (∀ p ∈ tabs, H p.2 = some (.tbl #[])) → SqL K H a (ns.map V.int) → ns.length ≤ n →
        codeAny (model l.prog w) callerA (.call (.ref fa) ⟨[.ref a], []⟩) (CR CX0 [] l.prog w H s (fun v _ => v = .bl true) fun _ _ _ => False) s) :
    PySem.W.WalkO q loose XP YP l.row.toRowW d [] (fun f vs => PySem.call f vs) := by
  refine Att.attach_callB hn hdf fun w s0 s mg mb fa o pm cd doc a vs ns G Y _ _ _ hmg hobj hints hlen _ hg => ?_
  obtain ⟨K, tabs, k, t1, t2, t3, run⟩ := F w mg fa _ Y G.T.g hmg
  have S : Top K mg mb tabs a vs ns s := ⟨k, G.T.g, G.T.b, G.T.builtins, G.T.nolimit, hg, t1, t2, t3, G.T.bmain, hobj, hints, Nat.le_trans hlen hn2⟩
  exact S.fin (run _ s _ a ns S.kin (S.nsS S.g) (fun p hp => S.tbB hp) S.env (fun p hp => H9.tab hp) S.sq hlen)
end Eg
set_option autoImplicit true
set_option Elab.async false
set_option linter.all false
set_option maxRecDepth 100000
set_option maxHeartbeats 2000000
/-! a Hook that looks at few objects, by their names, and at the tables of the code objects of some defs -/
namespace Hk
open PySem PySem.Spec PyProof.Rows L2 He
abbrev Get : Type := Addr → Option Obj
/-- the names whose objects are looked at -/
structure Few where
  cls : List Str
  fns : List Str
  oth : List Str
  mts : List (Str × Str)
  tbs : List Str
def nsA (g : Get) (C : Addr) : Addr := match g C with
  | some ⟨_, _, .cls cd, _⟩ => cd.ns
  | _ => 0
def inD (g : Get) (d : Addr) (x : Str) : Addr := match g d with
  | some ⟨_, _, .dict es _, _⟩ => (match es.toList.find? (·.key.isStr x) with
    | some e => (match e.val with | .ref a => a | _ => 0)
    | none => 0)
  | _ => 0
def cdA (g : Get) (f : Addr) : List Addr := match g f with
  | some ⟨_, _, .func fd, _⟩ => refV fd.code ++ refV fd.defaults
  | _ => []
def subA (g : Get) (a : Addr) : List Addr := match g a with
  | some ⟨_, _, .dict es _, _⟩ => es.toList.flatMap fun e => refV e.val
  | _ => []
def asF (g : Get) (F : Few) : List Addr :=
  let cs := F.cls.map (inD g mainGlobals)
  let fs := F.fns.map (inD g mainGlobals) ++ F.mts.map (fun p => inD g (nsA g (inD g mainGlobals p.1)) p.2)
  let os := F.oth.map (inD g mainGlobals)
  mainGlobals :: cStatics :: (cs ++ (cs.map (nsA g) ++ (fs ++ (fs.flatMap (cdA g) ++ (os ++ os.flatMap (subA g))))))
/-! ### tables -/
def fnCode (K : PySem.W.Frag) (f : Addr) : Addr := match K.lookup f with
  | some ⟨_, _, .func fd, _⟩ => (match fd.code with | .ref c => c | _ => 0)
  | _ => 0
def codeTab (K : PySem.W.Frag) (c : Addr) : Addr := match K.lookup c with
  | some ⟨_, _, .fields vs, _⟩ => (match (vs[11]? : Option Value) with | some (.ref P) => P | _ => 0)
  | _ => 0
def tC (K : PySem.W.Frag) (nm : Str) : Addr := fnCode K (ga K nm)
def tP (K : PySem.W.Frag) (nm : Str) : Addr := codeTab K (tC K nm)
def isTab (g : Get) (P : Addr) : Bool := match g P with
  | some o => emptyTab o
  | none => false
def tabB (g : Get) (K : PySem.W.Frag) (nm : Str) : Bool := isTab g (tP K nm) && (PySem.W.codeHdIn K (tC K nm) (tP K nm) && (K.lookup (tP K nm)).isNone)
structure TabOk (h : Heap) (K : PySem.W.Frag) (nm : Str) : Prop where
  tab : h.get? (tP K nm) = some { cls := .none, data := .fields #[] }
  hd : PySem.W.codeHdIn K (tC K nm) (tP K nm) = true
  no : K.lookup (tP K nm) = none
theorem tabB_ok {s : Shared} {K : PySem.W.Frag} {nm : Str} (h : tabB s.heap.get? K nm = true) : TabOk s.heap K nm := by
  obtain ⟨h1, h2⟩ := ba h
  obtain ⟨h2, h3⟩ := ba h2
  refine ⟨?_, h2, Option.isNone_iff_eq_none.mp h3⟩
  unfold isTab at h1
  cases e : s.heap.get? (tP K nm) with
  | none =>
    rw [e] at h1
    cases h1
  | some o =>
    rw [e] at h1
    rw [emptyTab_eq h1]
abbrev Al : Type := AlT × (Bool × Bool)
def obs (F : Few) (fa : List Fa) (fn : List DefD) (ts : List Tab) (ex : PySem.W.Frag → Bool) (g : Get) : Al := (obsT fa fn ts (frG g (asF g F)), (ex (frG g (asF g F)), F.tbs.all fun nm => tabB g (frG g (asF g F)) nm))
def val (fn : List DefD) (ts : List Tab) (w : World) : Al := (valT fn ts w, (true, true))
structure Says (fa : List Fa) (fn : List DefD) (ts : List Tab) (ex : PySem.W.Frag → Bool) (w : World) (K : PySem.W.Frag) : Prop where
  t : SaysT fa fn ts w K
  more : ex K = true
def hook (F : Few) (fa : List Fa) (fn : List DefD) (ts : List Tab) (ex : PySem.W.Frag → Bool) : PySem.W.Hook where
  α := Al
  obs := fun s => obs F fa fn ts ex s.heap.get?
  val := fun w => val fn ts w
  says := fun w h => ∃ K : PySem.W.Frag, K.In h ∧ Says fa fn ts ex w K ∧ ∀ nm ∈ F.tbs, TabOk h K nm
  of := fun _ s e => ⟨_, frG_in, ⟨congrArg (fun z : Al => z.1) e, congrArg (fun z : Al => z.2.1) e⟩, fun nm hn => tabB_ok (s := s) (List.all_eq_true.mp (congrArg (fun z : Al => z.2.2) e) nm hn)⟩
  keeps := fun _ _ _ ⟨K, hK, c, t⟩ k => ⟨K, PySem.W.Frag.In.keeps hK k, c, fun nm hn => ⟨k _ _ (t nm hn).tab, (t nm hn).hd, (t nm hn).no⟩⟩
theorem obs_eq {F : Few} {fa : List Fa} {fn : List DefD} {ts : List Tab} {ex : PySem.W.Frag → Bool} {g : Get} {s : Shared} (h : ∀ a, g a = s.heap.get? a) : obs F fa fn ts ex g = (hook F fa fn ts ex).obs s := by
  have e : g = s.heap.get? := funext h
  rw [e] <;> rfl
/-- a def's own code object -/
theorem fun_ref {K : PySem.W.Frag} {x : Str} {st : Stmt} {f : Addr} {fd : FuncData} (F : Fun K x x st f fd) : ∃ (oc : Value) (od an : Option Addr) (kV dc pm ct : Value) (sl : Array (Option Value)), fd = PySem.W.fnOf x x (defArgs st) (defBody st) (defScope st) .none kV dc pm an (.ref (fnCode K f)) ct ∧ K.lookup f = some ⟨oc, od, .func (PySem.W.fnOf x x (defArgs st) (defBody st) (defScope st) .none kV dc pm an (.ref (fnCode K f)) ct), sl⟩ ∧ PySem.W.codeIn K (.ref (fnCode K f)) x = true := by
  obtain ⟨oc, od, kV, dc, pm, an, cd, ct, sl, e, lk, hcd⟩ := id F.ex
  have ec : ∃ c, cd = .ref c := by
    cases cd with
    | ref c => exact ⟨c, rfl⟩
    | _ => cases hcd
  obtain ⟨c, rfl⟩ := ec
  have ef : fnCode K f = c := by
    unfold fnCode
    rw [lk, e]
  rw [ef]
  rw [e] at lk
  exact ⟨oc, od, an, kV, dc, pm, ct, sl, e, lk, hcd⟩
end Hk
set_option autoImplicit true
set_option Elab.async false
set_option linter.all false
set_option maxRecDepth 100000
set_option maxHeartbeats 0
namespace Hx
open PySem PySem.Spec PyProof.Rows L2 Tx K9
def ns0 : List Str := ["__name__", "MountError", "NoDeed", "NoText", "LETTERS", "is_whole", "is_name", "is_path", "is_absolute", "KINDS", "FORMS", "is_entry", "is_deed", "MOST", "whole_of", "deed_text"]
def ns1 : List Str := ["entry_text", "entry_of", "read_deed", "deed_of", "_law_cell_at", "_law_digit", "_law_text", "_law_one", "_law_road", "_law_deed", "_law_wrong", "_law_spoilt", "_law_refused"]
abbrev loose : List Str := ns0 ++ ns1
def d_is_whole : He.DefD := ⟨("is_whole", none), "is_whole", "is_whole", defArgs sWhole, defBody sWhole, defScope sWhole, [], []⟩
def d_is_name : He.DefD := ⟨("is_name", none), "is_name", "is_name", defArgs sName, defBody sName, defScope sName, [], []⟩
def d_is_path : He.DefD := ⟨("is_path", none), "is_path", "is_path", defArgs sPath, defBody sPath, defScope sPath, [], []⟩
def d_is_absolute : He.DefD := ⟨("is_absolute", none), "is_absolute", "is_absolute", defArgs sAbs, defBody sAbs, defScope sAbs, [], []⟩
def d_is_entry : He.DefD := ⟨("is_entry", none), "is_entry", "is_entry", defArgs sEntry, defBody sEntry, defScope sEntry, [], []⟩
def d_is_deed : He.DefD := ⟨("is_deed", none), "is_deed", "is_deed", defArgs sIsDeed, defBody sIsDeed, defScope sIsDeed, [], []⟩
def d_whole_of : He.DefD := ⟨("whole_of", none), "whole_of", "whole_of", defArgs sWholeOf, defBody sWholeOf, defScope sWholeOf, [], []⟩
def d_deed_text : He.DefD := ⟨("deed_text", none), "deed_text", "deed_text", defArgs sDeedText, defBody sDeedText, defScope sDeedText, [], []⟩
def d_entry_text : He.DefD := ⟨("entry_text", none), "entry_text", "entry_text", defArgs sEntryText, defBody sEntryText, defScope sEntryText, [], []⟩
def d_entry_of : He.DefD := ⟨("entry_of", none), "entry_of", "entry_of", defArgs sEntryOf, defBody sEntryOf, defScope sEntryOf, [], []⟩
def d_read_deed : He.DefD := ⟨("read_deed", none), "read_deed", "read_deed", defArgs sReadDeed, defBody sReadDeed, defScope sReadDeed, [], []⟩
def d_deed_of : He.DefD := ⟨("deed_of", none), "deed_of", "deed_of", defArgs sDeedOf, defBody sDeedOf, defScope sDeedOf, [], []⟩
def d__law_cell_at : He.DefD := ⟨("_law_cell_at", none), "_law_cell_at", "_law_cell_at", defArgs sCell, defBody sCell, defScope sCell, [], []⟩
def d__law_digit : He.DefD := ⟨("_law_digit", none), "_law_digit", "_law_digit", defArgs sDigit, defBody sDigit, defScope sDigit, [], []⟩
def d__law_text : He.DefD := ⟨("_law_text", none), "_law_text", "_law_text", defArgs sLText, defBody sLText, defScope sLText, [], []⟩
def d__law_one : He.DefD := ⟨("_law_one", none), "_law_one", "_law_one", defArgs sOne, defBody sOne, defScope sOne, [], []⟩
def d__law_road : He.DefD := ⟨("_law_road", none), "_law_road", "_law_road", defArgs sRoad, defBody sRoad, defScope sRoad, [], []⟩
def d__law_deed : He.DefD := ⟨("_law_deed", none), "_law_deed", "_law_deed", defArgs sLDeed, defBody sLDeed, defScope sLDeed, [], []⟩
def d__law_wrong : He.DefD := ⟨("_law_wrong", none), "_law_wrong", "_law_wrong", defArgs sWrong, defBody sWrong, defScope sWrong, [], []⟩
def d__law_spoilt : He.DefD := ⟨("_law_spoilt", none), "_law_spoilt", "_law_spoilt", defArgs sSpoilt, defBody sSpoilt, defScope sSpoilt, [], []⟩
def d__law_refused : He.DefD := ⟨("_law_refused", none), "_law_refused", "_law_refused", defArgs sRefused, defBody sRefused, defScope sRefused, [], []⟩
def d_law : He.DefD := ⟨("law", none), "law", "law", defArgs sLaw, defBody sLaw, defScope sLaw, [], []⟩
def d_NoText___init__ : He.DefD := ⟨("NoText", some "__init__"), "__init__", "NoText.__init__", defArgs sTextI, defBody sTextI, defScope sTextI, [.non], []⟩
def fn : List He.DefD := [d_is_whole, d_is_name, d_is_path, d_is_absolute, d_is_entry, d_is_deed, d_whole_of, d_deed_text, d_entry_text, d_entry_of, d_read_deed, d_deed_of, d__law_cell_at, d__law_digit, d__law_text, d__law_one, d__law_road, d__law_deed, d__law_wrong, d__law_spoilt, d__law_refused, d_law, d_NoText___init__]
def fa1 : List He.Fa := [.free "isinstance", .free "int", .free "bool", .free "str", .free "dict", .free "tuple", .free "range", .free "len", .free "all", .free "any", .free "sorted", .free "zip", .free "list", .free "repr"]
def fa2 : List He.Fa := [.glo "is_whole", .glo "is_name", .glo "is_path", .glo "is_absolute", .glo "is_entry", .glo "is_deed", .glo "whole_of", .glo "deed_text", .glo "entry_text", .glo "entry_of", .glo "read_deed", .glo "deed_of", .glo "_law_cell_at", .glo "_law_digit", .glo "_law_text", .glo "_law_one", .glo "_law_road", .glo "_law_deed", .glo "_law_wrong", .glo "_law_spoilt", .glo "_law_refused", .glo "law", .glo "MountError", .glo "NoDeed", .glo "NoText", .glo "KINDS", .glo "FORMS"]
def fa4 : List He.Fa := [.str "LETTERS" letters, .int "MOST" K9.most, .exc "NoDeed", .exm "NoDeed" "MountError" true, .exm "NoText" "MountError" true]
def fa : List He.Fa := fa1 ++ (fa2 ++ fa4)
def ts : List He.Tab := [(fun K => He.ga K "FORMS", wordsL)]
/-- a tuple of texts at an address -/
def tupA (K : PySem.W.Frag) (a : Addr) (ws : List Str) : Bool := match K.lookup a with
  | some ⟨.type c, _, .seq its _, _⟩ => decide (c = "tuple") && (decide (its.size ≤ 100) && He.relAll (ws.map V.str) its.toList)
  | _ => false
theorem tupA_ok {K : PySem.W.Frag} {a : Addr} {ws : List Str} (h : tupA K a ws = true) (H : Hp) : SqT K H a (ws.map V.str) := by
  unfold tupA at h
  split at h
  · rename_i c d its n sl q
    simp only [Bool.and_eq_true, decide_eq_true_eq] at h
    obtain ⟨h1, h2, h3⟩ := h
    subst h1
    exact .inr ⟨_, its, n, q, rfl, rfl, by rw [sizeLine_eq]; omega, He.relAll_ok h3⟩
  · cases h
def formB (K : PySem.W.Frag) : Bool := (formsL.all fun p => match PySem.W.nsIn K (He.ga K "FORMS") p.1 with
  | some (some (.ref t)) => tupA K t p.2
  | _ => false) && noWords.all fun z => decide (PySem.W.nsIn K (He.ga K "FORMS") z = some none)
/-- the keys in their order -/
def keysB : List Str → List DictEntry → Bool
  | [], [] => true
  | z :: zs, e :: es => (match e.key with
    | .str y _ => decide (y = z)
    | _ => false) && keysB zs es
  | _, _ => false
theorem keysB_ok : ∀ {zs : List Str} {es : List DictEntry}, keysB zs es = true → es.length = zs.length ∧ ∀ (i : Nat) (z : Str), zs[i]? = some z → ∃ (en : DictEntry) (t : Tok), es[i]? = some en ∧ en.key = Value.str z t
  | [], [], _ => ⟨rfl, fun i z h => by cases h⟩
  | y :: zs, e :: es, h => by
    obtain ⟨h1, h2⟩ := He.ba (show ((match e.key with | .str x _ => decide (x = y) | _ => false) && keysB zs es) = true from h)
    obtain ⟨l, r⟩ := keysB_ok h2
    refine ⟨by rw [List.length_cons, List.length_cons, l], fun i z hz => ?_⟩
    match i, hz with
    | 0, hz =>
      cases hz
      match q : e.key, h1 with
      | .str x t, h1 =>
        have e' : x = y := of_decide_eq_true h1
        subst e'
        exact ⟨e, t, rfl, q⟩
    | i + 1, hz => exact r i z hz
def kysB (K : PySem.W.Frag) (a : Addr) (zs : List Str) : Bool := match K.lookup a with
  | some ⟨_, _, .dict es _, _⟩ => keysB zs es.toList
  | _ => false
def excB (K : PySem.W.Frag) (D : Addr) : Bool :=
  decide (PySem.W.findIn K (.ref D) "__getattribute__" = some (some (.builtin "BaseException.__getattribute__"))) && (decide (PySem.W.findIn K (.ref D) "__getattr__" = some none) && (decide (PySem.W.subIn K (.ref D) (.type "BaseException") = some true) && (PySem.W.hasDictIn K D &&
  (decide (PySem.W.findIn K (.ref D) "__class__" = some (some (.builtin "object.__class__"))) && (decide (PySem.W.specialIn K (.builtin "object.__class__") "__get__" = some (some (.builtin "getset_descriptor.__get__"))) && (decide (PySem.W.takesIn K (.builtin "object.__class__") = some true) && decide (PySem.W.mroIn K D (.type "object") = some true)))))))
theorem excB_ok {K : PySem.W.Frag} {D : Addr} (h : excB K D = true) : ExcC K D := by
  simp only [excB, Bool.and_eq_true, decide_eq_true_eq] at h
  obtain ⟨h1, h2, h3, h4, h5, h6, h7, h8⟩ := h
  exact ⟨h1, h2, h3, h4, h5, h6, h7, h8⟩
def oexB (K : PySem.W.Frag) (C : Addr) : Bool := match K.lookup C with
  | some ⟨.type "type", _, .cls cd, sl⟩ => (match cd.mro, sl.toList with
    | .ref E :: bm, [_, _, _, _, some (.builtin n), _] => E == C && (n == "ValueError.__new__" && (!cd.hasDel && (cd.hasDict && PySem.HandSPX.refsVE bm)))
    | _, _ => false)
  | _ => false
theorem oexB_ok {K : PySem.W.Frag} {C : Addr} (q : oexB K C = true) : ∃ nm q N bs bm sn sub ab col dd k0 k1 k2 k3 k5, K.lookup C = some (excClassObj nm q C N bs bm true sn sub ab col dd k0 k1 k2 k3 k5 "ValueError.__new__") ∧ PySem.HandSPX.refsVE bm = true := by
  unfold oexB at q
  split at q
  · rename_i dd cd sl ho
    split at q
    · rename_i E bm k0 k1 k2 k3 n k5 hm hs
      simp only [Bool.and_eq_true, beq_iff_eq, Bool.not_eq_true'] at q
      obtain ⟨rfl, rfl, hdel, hdct, hv⟩ := q
      obtain ⟨nm, bs, mro, ns, qn, hd, sn, sub, ab, col, del⟩ := cd
      dsimp only at hm hdel hdct
      subst hm hdel hdct
      obtain ⟨l⟩ := sl
      dsimp only at hs
      subst hs
      exact ⟨_, _, _, _, bm, _, _, _, _, _, _, _, _, _, _, ho, hv⟩
    · cases q
  · cases q
/-- what is asked of NoText -/
def textB (K : PySem.W.Frag) (C : Addr) : Bool := oexB K C && (decide (PySem.W.findIn K (.ref C) "__setattr__" = some (some (.builtin "object.__setattr__"))) && (decide (PySem.W.subIn K (.ref C) (.type "BaseException") = some true) && (decide (PySem.W.typeIn K (.ref C) = some (.type "type")) && (PySem.W.keepIn K (.ref C) &&
  (decide (PySem.W.findIn K (.ref C) "line" = some none) && (decide (PySem.W.findIn K (.ref C) "__init__" = some (some (.ref (He.ma K C "__init__")))) && decide (PySem.W.typeIn K (.ref (He.ma K C "__init__")) = some (.type "function"))))))))
def isVI : Option Value → Bool
  | some (.builtin z) => decide (z = "ValueError.__init__")
  | _ => false
/-- what is asked of MountError -/
def mounB (K : PySem.W.Frag) (C : Addr) : Bool := decide (PySem.W.specialIn K (.ref C) "__getattribute__" = some (some (.builtin "type.__getattribute__"))) && (PySem.W.readsIn K C (.type "type") && (match PySem.W.findCls K (.ref C) (.type "type") "__init__" with
  | some (.val (.builtin z)) => decide (z = "ValueError.__init__")
  | _ => false))
def kitB4 (K : PySem.W.Frag) (D N : Addr) : Bool := decide (PySem.W.kitOne K (.ref D) (.ref D) = some true) && (decide (PySem.W.kitOne K (.ref D) (.ref N) = some false) && (decide (PySem.W.kitOne K (.ref N) (.ref D) = some false) && decide (PySem.W.kitOne K (.ref N) (.ref N) = some true)))
def exB (K : PySem.W.Frag) : Bool := tupA K (He.ga K "KINDS") kindsL && (formB K && (kysB K (He.ga K "FORMS") wordsL && (excB K (He.ga K "NoDeed") && (excB K (He.ga K "NoText") && (textB K (He.ga K "NoText") && (mounB K (He.ga K "MountError") && kitB4 K (He.ga K "NoDeed") (He.ga K "NoText")))))))
abbrev R : PySem.W.OpenRow := PySem.W.OpenLaw.row PySem.Challenge.rw_spreadmounts_k89_deeds_as_texts
def few : Hk.Few := ⟨["MountError", "NoDeed", "NoText"], ["is_whole", "is_name", "is_path", "is_absolute", "is_entry", "is_deed", "whole_of", "deed_text", "entry_text", "entry_of", "read_deed", "deed_of", "_law_cell_at", "_law_digit", "_law_text", "_law_one", "_law_road", "_law_deed", "_law_wrong", "_law_spoilt", "_law_refused", "law"], ["KINDS", "FORMS"], [("NoText", "__init__")], ["law"]⟩
abbrev hk : PySem.W.Hook := Hk.hook few fa fn ts exB
def ob (s : PySem.W.SharedT) : Hk.Al := Hk.obs few fa fn ts exB (HandSHeadRun.getT s)
theorem ob_eq (s : PySem.W.SharedT) : ob s = hk.obs s.abs := Hk.obs_eq (HandSHeadRun.getT_eq s)
theorem runF (w : World) : HandSHeadRun.RunEq R (PySem.W.view R.prog [33]) hk ob 60000 loose (w.withFollow "special-get-raises" false) := by
  intro os
  kernel_rfl
end Hx
set_option autoImplicit true
set_option Elab.async false
set_option linter.all false
set_option maxRecDepth 100000
set_option maxHeartbeats 16000000
namespace Hx
open PySem PySem.Spec PyProof.Rows L2 Tx K9 Cm LmB
section
variable {P : Program} {w : World} {K : PySem.W.Frag} {h : Heap} {mg : Str → Option Value} {base : Heap}
theorem f_is_whole (c : He.SaysD fa fn K) : ∃ fd, Fun K "is_whole" "is_whole" sWhole (He.ga K "is_whole") fd ∧ Binds K fd ["thing", "low", "high"] [] := by
  obtain ⟨fd, F⟩ := c.def_ 0 (d := d_is_whole) rfl
  have F1 : Fun K "is_whole" "is_whole" sWhole (He.ga K "is_whole") fd := He5.fun_of F
  exact ⟨fd, F1, F1.binds (ps := ["thing", "low", "high"]) fun _ _ _ _ _ _ us hl => match us, hl with | [_, _, _], _ => rfl⟩
theorem f_is_name (c : He.SaysD fa fn K) : ∃ fd, Fun K "is_name" "is_name" sName (He.ga K "is_name") fd ∧ Binds K fd ["thing"] [] := by
  obtain ⟨fd, F⟩ := c.def_ 1 (d := d_is_name) rfl
  have F1 : Fun K "is_name" "is_name" sName (He.ga K "is_name") fd := He5.fun_of F
  exact ⟨fd, F1, F1.binds (ps := ["thing"]) fun _ _ _ _ _ _ us hl => match us, hl with | [_], _ => rfl⟩
theorem f_is_path (c : He.SaysD fa fn K) : ∃ fd, Fun K "is_path" "is_path" sPath (He.ga K "is_path") fd ∧ Binds K fd ["thing"] [] := by
  obtain ⟨fd, F⟩ := c.def_ 2 (d := d_is_path) rfl
  have F1 : Fun K "is_path" "is_path" sPath (He.ga K "is_path") fd := He5.fun_of F
  exact ⟨fd, F1, F1.binds (ps := ["thing"]) fun _ _ _ _ _ _ us hl => match us, hl with | [_], _ => rfl⟩
theorem f_is_absolute (c : He.SaysD fa fn K) : ∃ fd, Fun K "is_absolute" "is_absolute" sAbs (He.ga K "is_absolute") fd ∧ Binds K fd ["path"] [] := by
  obtain ⟨fd, F⟩ := c.def_ 3 (d := d_is_absolute) rfl
  have F1 : Fun K "is_absolute" "is_absolute" sAbs (He.ga K "is_absolute") fd := He5.fun_of F
  exact ⟨fd, F1, F1.binds (ps := ["path"]) fun _ _ _ _ _ _ us hl => match us, hl with | [_], _ => rfl⟩
theorem f_is_entry (c : He.SaysD fa fn K) : ∃ fd, Fun K "is_entry" "is_entry" sEntry (He.ga K "is_entry") fd ∧ Binds K fd ["thing", "sort"] [] := by
  obtain ⟨fd, F⟩ := c.def_ 4 (d := d_is_entry) rfl
  have F1 : Fun K "is_entry" "is_entry" sEntry (He.ga K "is_entry") fd := He5.fun_of F
  exact ⟨fd, F1, F1.binds (ps := ["thing", "sort"]) fun _ _ _ _ _ _ us hl => match us, hl with | [_, _], _ => rfl⟩
theorem f_is_deed (c : He.SaysD fa fn K) : ∃ fd, Fun K "is_deed" "is_deed" sIsDeed (He.ga K "is_deed") fd ∧ Binds K fd ["thing"] [] := by
  obtain ⟨fd, F⟩ := c.def_ 5 (d := d_is_deed) rfl
  have F1 : Fun K "is_deed" "is_deed" sIsDeed (He.ga K "is_deed") fd := He5.fun_of F
  exact ⟨fd, F1, F1.binds (ps := ["thing"]) fun _ _ _ _ _ _ us hl => match us, hl with | [_], _ => rfl⟩
theorem f_whole_of (c : He.SaysD fa fn K) : ∃ fd, Fun K "whole_of" "whole_of" sWholeOf (He.ga K "whole_of") fd ∧ Binds K fd ["word"] [] := by
  obtain ⟨fd, F⟩ := c.def_ 6 (d := d_whole_of) rfl
  have F1 : Fun K "whole_of" "whole_of" sWholeOf (He.ga K "whole_of") fd := He5.fun_of F
  exact ⟨fd, F1, F1.binds (ps := ["word"]) fun _ _ _ _ _ _ us hl => match us, hl with | [_], _ => rfl⟩
theorem f_deed_text (c : He.SaysD fa fn K) : ∃ fd, Fun K "deed_text" "deed_text" sDeedText (He.ga K "deed_text") fd ∧ Binds K fd ["deed"] [] := by
  obtain ⟨fd, F⟩ := c.def_ 7 (d := d_deed_text) rfl
  have F1 : Fun K "deed_text" "deed_text" sDeedText (He.ga K "deed_text") fd := He5.fun_of F
  exact ⟨fd, F1, F1.binds (ps := ["deed"]) fun _ _ _ _ _ _ us hl => match us, hl with | [_], _ => rfl⟩
theorem f_entry_text (c : He.SaysD fa fn K) : ∃ fd, Fun K "entry_text" "entry_text" sEntryText (He.ga K "entry_text") fd ∧ Binds K fd ["entry"] [] := by
  obtain ⟨fd, F⟩ := c.def_ 8 (d := d_entry_text) rfl
  have F1 : Fun K "entry_text" "entry_text" sEntryText (He.ga K "entry_text") fd := He5.fun_of F
  exact ⟨fd, F1, F1.binds (ps := ["entry"]) fun _ _ _ _ _ _ us hl => match us, hl with | [_], _ => rfl⟩
theorem f_entry_of (c : He.SaysD fa fn K) : ∃ fd, Fun K "entry_of" "entry_of" sEntryOf (He.ga K "entry_of") fd ∧ Binds K fd ["word", "sort"] [] := by
  obtain ⟨fd, F⟩ := c.def_ 9 (d := d_entry_of) rfl
  have F1 : Fun K "entry_of" "entry_of" sEntryOf (He.ga K "entry_of") fd := He5.fun_of F
  exact ⟨fd, F1, F1.binds (ps := ["word", "sort"]) fun _ _ _ _ _ _ us hl => match us, hl with | [_, _], _ => rfl⟩
theorem f_read_deed (c : He.SaysD fa fn K) : ∃ fd, Fun K "read_deed" "read_deed" sReadDeed (He.ga K "read_deed") fd ∧ Binds K fd ["text"] [] := by
  obtain ⟨fd, F⟩ := c.def_ 10 (d := d_read_deed) rfl
  have F1 : Fun K "read_deed" "read_deed" sReadDeed (He.ga K "read_deed") fd := He5.fun_of F
  exact ⟨fd, F1, F1.binds (ps := ["text"]) fun _ _ _ _ _ _ us hl => match us, hl with | [_], _ => rfl⟩
theorem f_deed_of (c : He.SaysD fa fn K) : ∃ fd, Fun K "deed_of" "deed_of" sDeedOf (He.ga K "deed_of") fd ∧ Binds K fd ["text"] [] := by
  obtain ⟨fd, F⟩ := c.def_ 11 (d := d_deed_of) rfl
  have F1 : Fun K "deed_of" "deed_of" sDeedOf (He.ga K "deed_of") fd := He5.fun_of F
  exact ⟨fd, F1, F1.binds (ps := ["text"]) fun _ _ _ _ _ _ us hl => match us, hl with | [_], _ => rfl⟩
theorem f__law_cell_at (c : He.SaysD fa fn K) : ∃ fd, Fun K "_law_cell_at" "_law_cell_at" sCell (He.ga K "_law_cell_at") fd ∧ Binds K fd ["_law_script", "_law_k"] [] := by
  obtain ⟨fd, F⟩ := c.def_ 12 (d := d__law_cell_at) rfl
  have F1 : Fun K "_law_cell_at" "_law_cell_at" sCell (He.ga K "_law_cell_at") fd := He5.fun_of F
  exact ⟨fd, F1, F1.binds (ps := ["_law_script", "_law_k"]) fun _ _ _ _ _ _ us hl => match us, hl with | [_, _], _ => rfl⟩
theorem f__law_digit (c : He.SaysD fa fn K) : ∃ fd, Fun K "_law_digit" "_law_digit" sDigit (He.ga K "_law_digit") fd ∧ Binds K fd ["_law_state", "_law_base"] [] := by
  obtain ⟨fd, F⟩ := c.def_ 13 (d := d__law_digit) rfl
  have F1 : Fun K "_law_digit" "_law_digit" sDigit (He.ga K "_law_digit") fd := He5.fun_of F
  exact ⟨fd, F1, F1.binds (ps := ["_law_state", "_law_base"]) fun _ _ _ _ _ _ us hl => match us, hl with | [_, _], _ => rfl⟩
theorem f__law_text (c : He.SaysD fa fn K) : ∃ fd, Fun K "_law_text" "_law_text" sLText (He.ga K "_law_text") fd ∧ Binds K fd ["_law_deed_here"] [] := by
  obtain ⟨fd, F⟩ := c.def_ 14 (d := d__law_text) rfl
  have F1 : Fun K "_law_text" "_law_text" sLText (He.ga K "_law_text") fd := He5.fun_of F
  exact ⟨fd, F1, F1.binds (ps := ["_law_deed_here"]) fun _ _ _ _ _ _ us hl => match us, hl with | [_], _ => rfl⟩
theorem f__law_one (c : He.SaysD fa fn K) : ∃ fd, Fun K "_law_one" "_law_one" sOne (He.ga K "_law_one") fd ∧ Binds K fd ["_law_state", "_law_some"] [] := by
  obtain ⟨fd, F⟩ := c.def_ 15 (d := d__law_one) rfl
  have F1 : Fun K "_law_one" "_law_one" sOne (He.ga K "_law_one") fd := He5.fun_of F
  exact ⟨fd, F1, F1.binds (ps := ["_law_state", "_law_some"]) fun _ _ _ _ _ _ us hl => match us, hl with | [_, _], _ => rfl⟩
theorem f__law_road (c : He.SaysD fa fn K) : ∃ fd, Fun K "_law_road" "_law_road" sRoad (He.ga K "_law_road") fd ∧ Binds K fd ["_law_state"] [] := by
  obtain ⟨fd, F⟩ := c.def_ 16 (d := d__law_road) rfl
  have F1 : Fun K "_law_road" "_law_road" sRoad (He.ga K "_law_road") fd := He5.fun_of F
  exact ⟨fd, F1, F1.binds (ps := ["_law_state"]) fun _ _ _ _ _ _ us hl => match us, hl with | [_], _ => rfl⟩
theorem f__law_deed (c : He.SaysD fa fn K) : ∃ fd, Fun K "_law_deed" "_law_deed" sLDeed (He.ga K "_law_deed") fd ∧ Binds K fd ["_law_state"] [] := by
  obtain ⟨fd, F⟩ := c.def_ 17 (d := d__law_deed) rfl
  have F1 : Fun K "_law_deed" "_law_deed" sLDeed (He.ga K "_law_deed") fd := He5.fun_of F
  exact ⟨fd, F1, F1.binds (ps := ["_law_state"]) fun _ _ _ _ _ _ us hl => match us, hl with | [_], _ => rfl⟩
theorem f__law_wrong (c : He.SaysD fa fn K) : ∃ fd, Fun K "_law_wrong" "_law_wrong" sWrong (He.ga K "_law_wrong") fd ∧ Binds K fd ["_law_state", "_law_deed_here"] [] := by
  obtain ⟨fd, F⟩ := c.def_ 18 (d := d__law_wrong) rfl
  have F1 : Fun K "_law_wrong" "_law_wrong" sWrong (He.ga K "_law_wrong") fd := He5.fun_of F
  exact ⟨fd, F1, F1.binds (ps := ["_law_state", "_law_deed_here"]) fun _ _ _ _ _ _ us hl => match us, hl with | [_, _], _ => rfl⟩
theorem f__law_spoilt (c : He.SaysD fa fn K) : ∃ fd, Fun K "_law_spoilt" "_law_spoilt" sSpoilt (He.ga K "_law_spoilt") fd ∧ Binds K fd ["_law_state", "_law_text_here"] [] := by
  obtain ⟨fd, F⟩ := c.def_ 19 (d := d__law_spoilt) rfl
  have F1 : Fun K "_law_spoilt" "_law_spoilt" sSpoilt (He.ga K "_law_spoilt") fd := He5.fun_of F
  exact ⟨fd, F1, F1.binds (ps := ["_law_state", "_law_text_here"]) fun _ _ _ _ _ _ us hl => match us, hl with | [_, _], _ => rfl⟩
theorem f__law_refused (c : He.SaysD fa fn K) : ∃ fd, Fun K "_law_refused" "_law_refused" sRefused (He.ga K "_law_refused") fd ∧ Binds K fd ["_law_ask"] [] := by
  obtain ⟨fd, F⟩ := c.def_ 20 (d := d__law_refused) rfl
  have F1 : Fun K "_law_refused" "_law_refused" sRefused (He.ga K "_law_refused") fd := He5.fun_of F
  exact ⟨fd, F1, F1.binds (ps := ["_law_ask"]) fun _ _ _ _ _ _ us hl => match us, hl with | [_], _ => rfl⟩
theorem f_law (c : He.SaysD fa fn K) : ∃ fd, Fun K "law" "law" sLaw (He.ga K "law") fd ∧ Binds K fd ["_law_script"] [] := by
  obtain ⟨fd, F⟩ := c.def_ 21 (d := d_law) rfl
  have F1 : Fun K "law" "law" sLaw (He.ga K "law") fd := He5.fun_of F
  exact ⟨fd, F1, F1.binds (ps := ["_law_script"]) fun _ _ _ _ _ _ us hl => match us, hl with | [_], _ => rfl⟩
theorem f_NoText___init__ (c : He.SaysD fa fn K) : ∃ fd ds, FunD K "__init__" "NoText.__init__" (defArgs sTextI) (defBody sTextI) (defScope sTextI) [.non] [] (He.ma K (He.ga K "NoText") "__init__") fd ∧ Binds K fd ["self", "line"] ds ∧ Vals [.non] ds := by
  obtain ⟨fd, F⟩ := c.def_ 22 (d := d_NoText___init__) rfl
  have F1 : FunD K "__init__" "NoText.__init__" (defArgs sTextI) (defBody sTextI) (defScope sTextI) [.non] [] (He.ma K (He.ga K "NoText") "__init__") fd := F
  obtain ⟨ds, v, b⟩ := F1.binds1 (ps := ["self", "line"]) 1 0 (by simp) rfl fun _ _ _ _ _ _ _ us its h1 h2 => match us, its, h1, h2 with | [_], [_], _, _ => ⟨_, rfl, rfl⟩
  exact ⟨fd, ds, F1, b, v⟩
theorem f_Bi (X : K.In h) (G : h.Ns mainGlobals mg) (c : He.SaysD fa fn K) : Bi mg := ⟨(He.free_ok X G (c.fact 0 (f := .free "isinstance") rfl)), (He.free_ok X G (c.fact 1 (f := .free "int") rfl)), (He.free_ok X G (c.fact 2 (f := .free "bool") rfl)), (He.free_ok X G (c.fact 3 (f := .free "str") rfl)), (He.free_ok X G (c.fact 4 (f := .free "dict") rfl)), (He.free_ok X G (c.fact 5 (f := .free "tuple") rfl)), (He.free_ok X G (c.fact 6 (f := .free "range") rfl)), (He.free_ok X G (c.fact 7 (f := .free "len") rfl)), (He.free_ok X G (c.fact 8 (f := .free "all") rfl)), (He.free_ok X G (c.fact 9 (f := .free "any") rfl)), (He.free_ok X G (c.fact 10 (f := .free "sorted") rfl))⟩
theorem f_Co (X : K.In h) (G : h.Ns mainGlobals mg) (c : He.SaysD fa fn K) : Co mg := ⟨He.str_ok X G (c.fact 41 (f := .str "LETTERS" letters) rfl)⟩
theorem ex_all (e : exB K = true) : tupA K (He.ga K "KINDS") kindsL = true ∧ formB K = true ∧ kysB K (He.ga K "FORMS") wordsL = true ∧ excB K (He.ga K "NoDeed") = true ∧ excB K (He.ga K "NoText") = true ∧ textB K (He.ga K "NoText") = true ∧ mounB K (He.ga K "MountError") = true ∧ kitB4 K (He.ga K "NoDeed") (He.ga K "NoText") = true := by
  obtain ⟨h1, h⟩ := He.ba e
  obtain ⟨h2, h⟩ := He.ba h
  obtain ⟨h3, h⟩ := He.ba h
  obtain ⟨h4, h⟩ := He.ba h
  obtain ⟨h5, h⟩ := He.ba h
  obtain ⟨h6, h⟩ := He.ba h
  obtain ⟨h7, h8⟩ := He.ba h
  exact ⟨h1, h2, h3, h4, h5, h6, h7, h8⟩
theorem f_Kn (X : K.In h) (G : h.Ns mainGlobals mg) (c : He.SaysD fa fn K) (e : exB K = true) : Kn K mg := ⟨He.ga K "KINDS", (He.glo_ok X G (c.fact 39 (f := .glo "KINDS") rfl)), fun H => tupA_ok (ex_all e).1 H⟩
theorem f_tup (e : exB K = true) : ∀ p ∈ formsL, ∃ t, PySem.W.nsIn K (He.ga K "FORMS") p.1 = some (some (.ref t)) ∧ ∀ H, SqT K H t (p.2.map V.str) := fun p hp => by
  obtain ⟨h1, h2⟩ := He.ba (ex_all e).2.1
  have h3 := List.all_eq_true.mp h1 p hp
  split at h3
  · rename_i t q
    exact ⟨t, q, fun H => tupA_ok h3 H⟩
  · cases h3
theorem f_Fm (X : K.In h) (G : h.Ns mainGlobals mg) (c : He.SaysT fa fn ts w K) (e : exB K = true) : Fm K w mg := by
  obtain ⟨es, n, D⟩ := c.tab 0 rfl
  obtain ⟨h1, h2⟩ := He.ba (ex_all e).2.1
  exact ⟨_, es, n, (He.glo_ok X G (c.d.fact 40 (f := .glo "FORMS") rfl)), D, f_tup e, fun z hz => of_decide_eq_true (List.all_eq_true.mp h2 z hz)⟩
theorem f_Fm9 (X : K.In h) (G : h.Ns mainGlobals mg) (c : He.SaysT fa fn ts w K) (e : exB K = true) : Fm9 K w mg := by
  obtain ⟨es, n, D⟩ := c.tab 0 rfl
  have D' : L2.KDict K w (He.ga K "FORMS") es n := D
  have hk := (ex_all e).2.2.1
  unfold kysB at hk
  rw [D'.at_] at hk
  obtain ⟨l, r⟩ := keysB_ok (show keysB wordsL es.toList = true from hk)
  refine ⟨_, es, n, (He.glo_ok X G (c.d.fact 40 (f := .glo "FORMS") rfl)), ⟨D', by rw [← Array.length_toList]; exact l, fun i z hz => ?_⟩, f_tup e⟩
  obtain ⟨en, t, h1, h2⟩ := r i z hz
  exact ⟨en, t, by rw [← Array.getElem?_toList]; exact h1, h2⟩
theorem f_E9 (X : K.In h) (G : h.Ns mainGlobals mg) (c : He.SaysD fa fn K) (e : exB K = true) : E9 K mg (He.ga K "MountError") (He.ga K "NoDeed") (He.ga K "NoText") := by
  obtain ⟨_, _, _, h4, h5, _, _, h8⟩ := ex_all e
  simp only [kitB4, Bool.and_eq_true, decide_eq_true_eq] at h8
  obtain ⟨k1, k2, k3, k4⟩ := h8
  exact ⟨(He.glo_ok X G (c.fact 36 (f := .glo "MountError") rfl)), (He.glo_ok X G (c.fact 37 (f := .glo "NoDeed") rfl)), (He.glo_ok X G (c.fact 38 (f := .glo "NoText") rfl)), excB_ok h4, excB_ok h5, He.exm_ok (c.fact 44 (f := .exm "NoDeed" "MountError" true) rfl), He.exm_ok (c.fact 45 (f := .exm "NoText" "MountError" true) rfl), k1, k2, k3, k4⟩
theorem f_Me (X : K.In h) (G : h.Ns mainGlobals mg) (c : He.SaysD fa fn K) (e : exB K = true) : Me K mg (He.ga K "MountError") := by
  have h7 := (ex_all e).2.2.2.2.2.2.1
  obtain ⟨h1, h2⟩ := He.ba h7
  obtain ⟨h2, h3⟩ := He.ba h2
  refine ⟨(He.glo_ok X G (c.fact 36 (f := .glo "MountError") rfl)), of_decide_eq_true h1, h2, ?_⟩
  split at h3
  · rename_i z q
    rw [q, of_decide_eq_true h3]
  · cases h3
theorem f_Ec (X : K.In h) (G : h.Ns mainGlobals mg) (c : He.SaysD fa fn K) : Ec K mg "NoDeed" (He.ga K "NoDeed") := by
  obtain ⟨h1, h2, h3, h4⟩ := He.exc_ok (c.fact 43 (f := .exc "NoDeed") rfl)
  exact ⟨(He.glo_ok X G (c.fact 37 (f := .glo "NoDeed") rfl)), h1, h2, h3, h4⟩
theorem f_Nt (X : K.In h) (G : h.Ns mainGlobals mg) (c : He.SaysD fa fn K) (e : exB K = true) : Nt P w K mg base (He.ga K "NoText") := by
  have h6 := (ex_all e).2.2.2.2.2.1
  simp only [textB, Bool.and_eq_true, decide_eq_true_eq] at h6
  obtain ⟨t1, t2, t3, t4, t5, t6, t7, t8⟩ := h6
  obtain ⟨fd, ds, F, b, v⟩ := f_NoText___init__ c
  exact ⟨(He.glo_ok X G (c.fact 38 (f := .glo "NoText") rfl)), ⟨oexB_ok t1, t2, t3, t4, t5⟩, t6, _, fd, ds, t7, t8, ok_NoText F (f_Me X G c e), b, v⟩
def tabs (K : PySem.W.Frag) : List (Addr × Str) := [(Hk.tP K "law", lamQL)]
def cps (K : PySem.W.Frag) : List (Addr × Addr) := [(Hk.tC K "law", Hk.tP K "law")]
theorem facts {f a : Addr} {s : Shared} {H : Hp} {ns : List Int} (X : K.In h) (G : h.Ns mainGlobals mg) (hfa : mg ("law" : Str) = some (.ref f)) (cc : Hk.Says fa fn ts exB w K) (TB : ∀ p ∈ cps K, LamX.TabB base mg p.1 p.2) (e0 : Env0 P w K mg base callerA [] s H)
    (hT : ∀ p ∈ cps K, H p.2 = some (.tbl #[])) (hS : SqL K H a (ns.map V.int)) (hl : ns.length ≤ 63) : codeAny (model P w) callerA (.call (.ref f) ⟨[.ref a], []⟩) (CR CX0 [] P w H s (fun v _ => v = .bl true) fun _ _ _ => False) s := by
  have c : He.SaysD fa fn K := cc.t.d
  have e := cc.more
  have B := f_Bi X G c
  have Cc := f_Co X G c
  have e9 := f_E9 X G c e
  obtain ⟨dis_whole, Fis_whole, bis_whole⟩ := f_is_whole c
  obtain ⟨dis_name, Fis_name, bis_name⟩ := f_is_name c
  obtain ⟨dis_path, Fis_path, bis_path⟩ := f_is_path c
  obtain ⟨dis_absolute, Fis_absolute, bis_absolute⟩ := f_is_absolute c
  obtain ⟨dis_entry, Fis_entry, bis_entry⟩ := f_is_entry c
  obtain ⟨dis_deed, Fis_deed, bis_deed⟩ := f_is_deed c
  obtain ⟨dwhole_of, Fwhole_of, bwhole_of⟩ := f_whole_of c
  obtain ⟨ddeed_text, Fdeed_text, bdeed_text⟩ := f_deed_text c
  obtain ⟨dentry_text, Fentry_text, bentry_text⟩ := f_entry_text c
  obtain ⟨dentry_of, Fentry_of, bentry_of⟩ := f_entry_of c
  obtain ⟨dread_deed, Fread_deed, bread_deed⟩ := f_read_deed c
  obtain ⟨ddeed_of, Fdeed_of, bdeed_of⟩ := f_deed_of c
  obtain ⟨d_law_cell_at, F_law_cell_at, b_law_cell_at⟩ := f__law_cell_at c
  obtain ⟨d_law_digit, F_law_digit, b_law_digit⟩ := f__law_digit c
  obtain ⟨d_law_text, F_law_text, b_law_text⟩ := f__law_text c
  obtain ⟨d_law_one, F_law_one, b_law_one⟩ := f__law_one c
  obtain ⟨d_law_road, F_law_road, b_law_road⟩ := f__law_road c
  obtain ⟨d_law_deed, F_law_deed, b_law_deed⟩ := f__law_deed c
  obtain ⟨d_law_wrong, F_law_wrong, b_law_wrong⟩ := f__law_wrong c
  obtain ⟨d_law_spoilt, F_law_spoilt, b_law_spoilt⟩ := f__law_spoilt c
  obtain ⟨d_law_refused, F_law_refused, b_law_refused⟩ := f__law_refused c
  obtain ⟨dlaw, Flaw, blaw⟩ := f_law c
  have ef := hfa.symm.trans (He.glo_ok X G (c.fact 35 (f := .glo "law") rfl))
  cases ef
  have hzip := (He.free_ok X G (c.fact 11 (f := .free "zip") rfl))
  have hlist := (He.free_ok X G (c.fact 12 (f := .free "list") rfl))
  have hrep := (He.free_ok X G (c.fact 13 (f := .free "repr") rfl))
  obtain ⟨tM, hM⟩ := He.int_ok X G (c.fact 42 (f := .int "MOST" K9.most) rfl)
  obtain ⟨oc2, od2, an2, kV2, dc2, pm2, ct2, sl2, e2, lk2, hc2⟩ := Hk.fun_ref Flaw
  subst e2
  have tb0 := TB _ (.head _)
  have uni : ∀ p ∈ tabs K, p.1 = Hk.tP K "law" → p.2 = lamQL := fun p hp _ => by rw [List.mem_singleton.mp hp]
  have cWh : Cm.Cl P w K mg base CX0 1 "is_whole" ["thing", "low", "high"] (spWhole K) := .of X G (He.eqO_ok (c.fact 14 (f := .glo "is_whole") rfl)) Fis_whole bis_whole (ok_whole Fis_whole B)
  have cNa : Cm.Cl P w K mg base CX0 1 "is_name" ["thing"] (spName K) := .of X G (He.eqO_ok (c.fact 15 (f := .glo "is_name") rfl)) Fis_name bis_name (ok_name Fis_name B Cc)
  have cPa : Cm.Cl P w K mg base CX0 2 "is_path" ["thing"] (spPath K) := .of X G (He.eqO_ok (c.fact 16 (f := .glo "is_path") rfl)) Fis_path bis_path (ok_path (k := 0) (fN := 0) (fdN := dis_name) Fis_path B cNa)
  have cAb : Cm.Cl P w K mg base CX0 1 "is_absolute" ["path"] spAbs := .of X G (He.eqO_ok (c.fact 17 (f := .glo "is_absolute") rfl)) Fis_absolute bis_absolute (ok_abs Fis_absolute)
  have cEn : Cm.Cl P w K mg base CX0 3 "is_entry" ["thing", "sort"] spEntry := .of X G (He.eqO_ok (c.fact 18 (f := .glo "is_entry") rfl)) Fis_entry bis_entry (ok_entry Fis_entry B (f_Kn X G c e) cPa cAb)
  have cDe : Cm.Cl P w K mg base CX0 4 "is_deed" ["thing"] spIsDeed := .of X G (He.eqO_ok (c.fact 19 (f := .glo "is_deed") rfl)) Fis_deed bis_deed (ok_isdeed Fis_deed B hzip (f_Fm X G cc.t e) cEn)
  have cWo : Cm.Cl P w K mg base CX0 1 "whole_of" ["word"] spWof := .of X G (He.eqO_ok (c.fact 20 (f := .glo "whole_of") rfl)) Fwhole_of bwhole_of (ok_wof Fwhole_of B)
  have cEt : Cm.Cl P w K mg base CX0 1 "entry_text" ["entry"] spEt := .of X G (He.eqO_ok (c.fact 22 (f := .glo "entry_text") rfl)) Fentry_text bentry_text (ok_et Fentry_text B)
  have cEo : Cm.Cl P w K mg base CX0 2 "entry_of" ["word", "sort"] spEo := .of X G (He.eqO_ok (c.fact 23 (f := .glo "entry_of") rfl)) Fentry_of bentry_of (ok_eo Fentry_of cWo)
  have cDo : Cm.Cl P w K mg base CX0 5 "deed_of" ["text"] (spDof K) := .of X G (He.eqO_ok (c.fact 25 (f := .glo "deed_of") rfl)) Fdeed_of bdeed_of (ok_dof Fdeed_of B hzip (f_Fm9 X G cc.t e) cEo cDe cNa)
  have cRd : Cm.Cl P w K mg base (L2.CX P w) 6 "read_deed" ["text"] (spRd K (He.ga K "NoText")) := .of X G (He.eqO_ok (c.fact 24 (f := .glo "read_deed") rfl)) Fread_deed bread_deed (ok_rd Fread_deed (f_Nt X G c e) cDo)
  have cDt : Cm.Cl P w K mg base (L2.CX P w) 6 "deed_text" ["deed"] (spDt (He.ga K "NoDeed")) := .of X G (He.eqO_ok (c.fact 21 (f := .glo "deed_text") rfl)) Fdeed_text bdeed_text (ok_dt Fdeed_text (f_Ec X G c) hM cDe cNa cWh cEt)
  have cDg : Cm.Cl P w K mg base CX0 1 "_law_digit" ["_law_state", "_law_base"] spDigit := .of X G (He.eqO_ok (c.fact 27 (f := .glo "_law_digit") rfl)) F_law_digit b_law_digit (ok_digit F_law_digit B)
  have cCe : Cm.Cl P w K mg base CX0 1 "_law_cell_at" ["_law_script", "_law_k"] (Tx.spCell K) := .of X G (He.eqO_ok (c.fact 26 (f := .glo "_law_cell_at") rfl)) F_law_cell_at b_law_cell_at (ok_cell F_law_cell_at B)
  have cLt : Cm.Cl P w K mg base CX0 1 "_law_text" ["_law_deed_here"] spLt := .of X G (He.eqO_ok (c.fact 28 (f := .glo "_law_text") rfl)) F_law_text b_law_text (ok_lt F_law_text B)
  have cOn : Cm.Cl P w K mg base CX0 2 "_law_one" ["_law_state", "_law_some"] (spOne K) := .of X G (He.eqO_ok (c.fact 29 (f := .glo "_law_one") rfl)) F_law_one b_law_one (ok_one F_law_one B cDg)
  have cRo : Cm.Cl P w K mg base CX0 3 "_law_road" ["_law_state"] spRoad := .of X G (He.eqO_ok (c.fact 30 (f := .glo "_law_road") rfl)) F_law_road b_law_road (ok_road F_law_road B cDg cOn)
  have cLd : Cm.Cl P w K mg base CX0 4 "_law_deed" ["_law_state"] spLd := .of X G (He.eqO_ok (c.fact 31 (f := .glo "_law_deed") rfl)) F_law_deed b_law_deed (ok_ld F_law_deed B cDg cOn cRo)
  have cWr : Cm.Cl P w K mg base CX0 3 "_law_wrong" ["_law_state", "_law_deed_here"] spWrong := .of X G (He.eqO_ok (c.fact 32 (f := .glo "_law_wrong") rfl)) F_law_wrong b_law_wrong (ok_wrong F_law_wrong B hlist cDg cOn)
  have cSp : Cm.Cl P w K mg base CX0 3 "_law_spoilt" ["_law_state", "_law_text_here"] spSpoilt := .of X G (He.eqO_ok (c.fact 33 (f := .glo "_law_spoilt") rfl)) F_law_spoilt b_law_spoilt (ok_spoilt F_law_spoilt B cDg cOn)
  have oRf : GOk P w K mg base 8 10 "_law_refused" (TTr (He.ga K "NoDeed") (He.ga K "NoText")) := gok_refused F_law_refused b_law_refused (He.glo_ok X G (c.fact 34 (f := .glo "_law_refused") rfl)) B e9
  have D : K9.Lw P w K mg base (He.ga K "MountError") (He.ga K "NoDeed") (He.ga K "NoText") := ⟨B, hrep, cCe, cLd, cLt, cWr, cSp, cDt, cRd, oRf⟩
  have L : LmT base mg (tabs K) (Hk.tC K "law") (Hk.tP K "law") lamQL := ⟨tb0, .head _, uni⟩
  refine run_law lk2 hc2 D L ⟨rfl, by decide, by decide⟩ rfl e0 (.of_eq rfl) hS hl fun p hp => ?_
  rw [List.mem_singleton.mp hp]
  exact LamX.TabS.nil (hT _ (.head _))
end
end Hx
set_option autoImplicit true
set_option Elab.async false
set_option linter.all false
set_option maxRecDepth 100000
set_option maxHeartbeats 0
namespace Hx
open PySem PySem.Spec PyProof.Rows L2 Tx K9
theorem runT (w : World) : HandSHeadRun.RunEq R (PySem.W.view R.prog [33]) hk ob 60000 loose (w.withFollow "special-get-raises" true) := by
  intro os
  kernel_rfl
theorem run (w : World) : HandSHeadRun.RunEq R (PySem.W.view R.prog [33]) hk ob 60000 loose w :=
  PySem.W.byRow2 "special-get-raises" (P := fun w => HandSHeadRun.RunEq R (PySem.W.view R.prog [33]) hk ob 60000 loose w) runF runT w
end Hx
open PySem PySem.W PySem.Calls PyProof.Rows
set_option maxRecDepth 100000 in
set_option maxHeartbeats 0 in
theorem PySem.Challenge.cw_spreadmounts_k89_deeds_as_texts_holds : PySem.Challenge.rw_spreadmounts_k89_deeds_as_texts.Holds := by
  w_on; o_law
  refine HandSHeadRun.head_any (r := OpenLaw.row PySem.Challenge.rw_spreadmounts_k89_deeds_as_texts) (q := view (OpenLaw.row PySem.Challenge.rw_spreadmounts_k89_deeds_as_texts).prog [33]) (H := Hx.hk) (ob := Hx.ob) (M := 60000) (loose := Hx.loose) (d := HandSHeadRun.topDef (OpenLaw.row PySem.Challenge.rw_spreadmounts_k89_deeds_as_texts).prog 33) (kwd := []) Hx.ob_eq
    (by kernel_rfl) (fun s => by kernel_rfl) Hx.run (by kernel_rfl) (by kernel_rfl) (by kernel_rfl) (by rfl) (by first | assumption | decide +kernel) (by decide +kernel) ⟨rfl, rfl, rfl, rfl, rfl, by decide +kernel⟩ ?hw ?hc
  case hw => w_witness2
  case hc =>
    refine Eg.walk_ofG (l := PySem.Challenge.rw_spreadmounts_k89_deeds_as_texts) (n := 63) rfl (by decide) (by kernel_rfl) ?F
    intro w mg fa h Y G hmg0
    obtain ⟨K, KX, c, tb⟩ := Y
    have hmg : mg ("law" : PySem.Str) = some (.ref fa) := by
      have e : (HandSHeadRun.topDef (OpenLaw.row PySem.Challenge.rw_spreadmounts_k89_deeds_as_texts).prog 33).name = ("law" : PySem.Str) := by kernel_rfl
      rw [← e]
      exact hmg0
    have t1 := tb "law" (.head _)
    have one : ∀ {φ : Addr × Addr → Prop}, φ (Hk.tC K "law", Hk.tP K "law") → ∀ p ∈ Hx.cps K, φ p := fun h1 p hp => by
      rw [List.mem_singleton.mp hp]
      exact h1
    exact ⟨K, Hx.cps K, KX, one t1.tab, one t1.no, one (PySem.W.codeHd_of_K KX t1.hd), fun base s H a ns _ _ TB e0 hT hS hl => Hx.facts (P := (PySem.Challenge.rw_spreadmounts_k89_deeds_as_texts).prog) (w := w) KX G hmg c TB e0 hT hS hl⟩
