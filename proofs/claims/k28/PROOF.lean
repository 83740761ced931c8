import PyProof.Rows.All
import Wide.All
import OpenK.AllK
import Wide.FinOn
import HandS.ForMost
import HandS.Exc
import HandS.DictComp
import KE.GoesComp
import KE.GoesRaise
import KE.KDictDisplayH
import HandS.TryOnly
import HandS.TryMany
import HandS.ExcOwn
import HandS.WordsExc
import HandS.IsInst
import HandS.Wide
import HandS.Codes
import HandS.Evl
import HandS.Walk
import HandS.EndBits
import HandS.StrMore
import HandS.ExcIs
import HandS.More
import HandS.WordsDict
import HandS.DictSub
import HandS.TupAny
import HandS.Zip
import HandS.Defaults
import HandS.Lambda
import HandS.Nested
import KE.SortKeyHeap
import KE.SortData
import HandS.SortKw
import KE.KSortedM
import HandS.ListItems
import HandS.Sort
import KE.KDictList
import HandS.Small
import HandS.HeadHook4
import HandS.HeadNt
import HandS.HeadEnd
import HandS.EndTab
import HandS.Head2
import PySem.Challenge.RW_spreadmounts_k28_groups_that_end
set_option autoImplicit true
set_option Elab.async false
set_option linter.all false
set_option maxRecDepth 100000
set_option maxHeartbeats 4000000
/-! A dict comprehension whose values may raise out of a call. -/
namespace DcE
open PySem PySem.Spec PyProof.Rows L2
section
variable {X : Cx} {pins : List (Addr × Obj)} {σ : L2.St} {H : Hp} {s s' : Shared} {E : XK} {u : Value}
theorem flies (I : Inv X pins σ H s) (c : L2.CX X.prog X.w X.stack H s E u s') :
    ∃ (a : Addr) (B : Heap) (sI : Shared) (pn : List (Addr × Obj)) (σ' : L2.St) (H' : Hp) (cls : Value) (d : Option Addr), u = .ref a ∧ Inv X pn σ' H' sI ∧ (∀ b o, sI.heap.get? b = some o → b ∉ frs X.stack → B.get? b = some o) ∧
      sI.heap.UpToSlots s'.heap ∧ HandSPX.FlyingZ B X.stack a (Zc cls d) s'.heap ∧ H' a = none ∧ s'.os = sI.os ∧ AllBare s'.gens ∧ E cls d H' := by
  obtain ⟨a0, B0, H0, cls0, d0, e0, ⟨_, _, _, oe0, vs0, T0, oT0, ts0, he0, _, hd0, h10, _, _, hT0, hdT0, h30⟩, _⟩ := id c
  obtain ⟨a, B, sI, pn, σ', H', cls, d, e, I', nb, up, sky, na, os, ag, w⟩ := XE.of_call (W := fun cls d _ H => E cls d H) I (fun _ _ _ h => h) c
  have ea : a0 = a := by
    rw [e] at e0
    injection e0 with q
    exact q.symm
  rw [ea] at he0
  have fl : HandSPX.FlyingZ B X.stack a (Zc cls d) s'.heap := by
    rcases sky with ⟨_, _, _, oe, vs, he, _, hd, h1⟩ | fl | ⟨_, _, _, oe, vs, T, oT, ts, he, _, hd, h1, _, _, hT, hdT, h3⟩
    · exfalso
      rw [he0] at he
      cases he
      rw [hd0] at hd
      cases hd
      rw [h10] at h1
      cases h1
    · exact fl
    · exfalso
      rw [he0] at he
      cases he
      rw [hd0] at hd
      cases hd
      rw [h10] at h1
      cases h1
      rw [hT0] at hT
      cases hT
      rw [hdT0] at hdT
      cases hdT
      rw [h30] at h3
      cases h3
  exact ⟨a, B, sI, pn, σ', H', cls, d, e, I', nb, up, fl, na, os, ag, w⟩
theorem but_one (h : Heap) (C : Addr) : ∃ G : Heap, (∀ b, b ≠ C → G.get? b = h.get? b) ∧ G.get? C = none := by
  obtain ⟨G, g1, g2⟩ := restrict h fun b => decide (b ≠ C)
  exact ⟨G, fun b hb => g1 b (decide_eq_true hb), g2 C (by simp)⟩
/-- out of the block: noted, the block let go, on in the def's own frame -/
theorem out {σ8 : L2.St} {H3 H8 : Hp} {s3 s8 : Shared} {scope : Scope} {ce : Env} {fp : List Addr} {use : Option (Value → Sem Unit)} {Qf : Value → Shared → Prop} {D : Value} {pn : List (Addr × Obj)} {xe : Value → Shared → Prop}
    (tk : Takes X (fun cls d _ H => E cls d H)) (hs : X.stack = X.env :: X.outer) (hf : X.env.frame = some X.env.locals) (hcf : ce.frame = X.env.frame) (cL : ce.locals = s3.heap.objs.size) (I3 : Inv X pins σ H3 s3) (f3 : ∀ b ∈ fp, FpOk X pins H3 b)
    (I8 : Inv ((X.blk s3 H3 scope ce fp).wish xe) pn σ8 H8 s8) (c : L2.CX X.prog X.w X.stack H8 s8 E u s') :
    notedBy (model X.prog X.w) X.A ce (fun e s2 => compEnds (model X.prog X.w) X.A X.xe use Qf D ce (.error e) s2) u s' := by
  obtain ⟨a, B, sI, pn', σ', H', cls, d, rfl, I, nb, up, fl, na, os, ag, hE⟩ := flies I8 c
  obtain ⟨m, hn, _⟩ := I.loc
  have hn : sI.heap.Ns ce.locals m := hn
  have fl : HandSPX.FlyingZ B X.stack a (Zc cls d) s'.heap := fl
  have nb : ∀ b o, sI.heap.get? b = some o → b ∉ frs X.stack → B.get? b = some o := nb
  have hfr : X.A.frames = some (X.env :: X.outer) := by rw [I3.ok.frames, hs]
  show wpAny _ _ (noteFrame (.ref a) ce) _ _ s'
  rw [noteFrame_env _ hcf]
  refine HandSPX.looks_onZ Zc.steady hfr hf (by rw [← hs]; exact fl) fun h1 hh up1 => ?_
  have hn1 : h1.Ns ce.locals m := Heap.Ns.upToSlots (Heap.Ns.upToSlots hn up) up1
  suffices q : CompFails (model X.prog X.w) X.A X.xe ce (.ref a) { s' with heap := h1 } by
    cases use <;> exact q
  refine ⟨m, hn1, fun h2 m2 hn2 hs2 => ?_⟩
  obtain ⟨b1, b0, f1, oe, vs, T, oT, ts, he, hz, hd, hv1, hnT, hTe, hT, hdT, h3⟩ := hh
  obtain ⟨B2, g1, g2⟩ := but_one B ce.locals
  obtain ⟨G2, k1, k2⟩ := but_one sI.heap ce.locals
  obtain ⟨oL, es, ep, hoL, hdL, _⟩ := hn1
  have naC : a ≠ ce.locals := fun z => by
    rw [z, hoL] at he
    cases he
    rw [hdL] at hd
    cases hd
  have nTC : T ≠ ce.locals := fun z => by
    rw [z, hoL] at hT
    cases hT
    rw [hdL] at hdT
    cases hdT
  have toB : ∀ b o, B2.get? b = some o → b ≠ ce.locals ∧ B.get? b = some o := fun b o e => by
    have nbC : b ≠ ce.locals := fun z => by
      rw [z, g2] at e
      cases e
    exact ⟨nbC, (g1 b nbC).symm.trans e⟩
  have noB : ∀ b, B.get? b = none → B2.get? b = none := fun b e => by
    cases q : B2.get? b with
    | none => rfl
    | some o =>
      rw [(toB b o q).2] at e
      cases e
  have st2 : B2.StaysIn h2 := fun b o e => (hs2.2 b (toB b o e).1).trans (b1 b o (toB b o e).2)
  have ff2 : h2.FunFrames B2 (X.env :: X.outer) := funFrames_none (Heap.FunFrames.sameBut hs2 hn2 f1) fun L hL => by
    obtain ⟨hb, _⟩ := f1.mem hL
    exact noB L hb
  have tr2 : HandSPX.TracedZ h2 B2 a (Zc cls d) (rawInt X.env.locals) := ⟨oe, vs, T, oT, ts, (hs2.2 a naC).trans he, hz, hd, hv1, noB T hnT, hTe, (hs2.2 T nTC).trans hT, hdT, h3⟩
  unfold PySem.passOn
  refine wpAny_bind (wpAny_field ((hs2.2 a naC).trans he) hd hv1 ?_)
  rw [if_neg (show ¬ ((Value.ref T == Value.none) = true) from by simp)]
  rw [hcf, hf]
  refine wpAny_bind (HandSPX.setFlight_anyZ st2 ff2 tr2 fun h4 t1 t2 t3 t4 => wpAny_throw (tk _ _ ?_))
  have I3' : Inv X pins σ H' { sI with heap := G2 } := by
    have un : Un (frs X.stack) fp H3 H' s3.heap sI.heap := I.base
    have nC : ∀ b o, s3.heap.get? b = some o → b ≠ ce.locals := fun b o e z => by
      have q := Heap.lt_size e
      rw [z, cL] at q
      exact Nat.lt_irrefl _ q
    refine I3.call' (ch := fp) I.os ⟨fun b o e n x y => (k1 b (nC b o e)).trans (un.keep b o e n x y), fun b o e n x y => ?_, un.free, fun b o e y => ?_, un.tups, un.frzs, un.tbls⟩ (fun b o e => ?_) I.bare fun b hb => ⟨(f3 b hb).2.2.2.1, (f3 b hb).2.1, (f3 b hb).2.2.2.2.1, (f3 b hb).2.2.2.2.2⟩
    · obtain ⟨sl, q⟩ := un.slot b o e n x y
      exact ⟨sl, (k1 b (nC b o e)).trans q⟩
    · obtain ⟨o', q⟩ := un.there b o e y
      exact ⟨o', (k1 b (nC b o e)).trans q⟩
    · have hfreeC : H' ce.locals = none := I.free
      refine (I.hok b o e).stay (fun c u hc r => (k1 c fun z => ?_).trans r) (fun _ r => r) fun _ _ r => r
      rcases hc with hc | hc
      · rw [← hc, z, hfreeC] at e
        cases e
      · rw [z, hfreeC] at hc
        cases hc
  refine ⟨a, B2, { sI with heap := G2 }, pins, σ, H', cls, d, rfl, I3', fun b o e hb => ?_, fun b o e hnf => ?_, .inr (.inr ⟨t1, noB a b0, by rw [hs]; exact t2, t3⟩), na, os, ag, hE⟩
  · have nbC : b ≠ ce.locals := fun z => by
      have e : G2.get? b = some o := e
      rw [z, k2] at e
      cases e
    exact (g1 b nbC).trans (nb b o ((k1 b nbC).symm.trans e) hb)
  · have nbC : b ≠ ce.locals := fun z => by
      have e : G2.get? b = some o := e
      rw [z, k2] at e
      cases e
    obtain ⟨s1, e1⟩ := up b o ((k1 b nbC).symm.trans e) hnf
    obtain ⟨s2, e2⟩ := up1 b _ e1 hnf
    have e3 : h2.get? b = some { o with slots := s2 } := (hs2.2 b nbC).trans e2
    obtain ⟨s3, e4⟩ := t4 b { o with slots := s2 } e3 hnf
    exact ⟨s3, e4⟩
/-- {k: v for target in iter}, v a call that may raise: D the new dict -/
def tDcE (wi : TI) (g : TG) (tk tv : TE) (vs : List Nat) : TE := fun σ H Q => wi σ H fun J H1 => ∀ D, H1 D = none → ∃ W : Nat → Nat → Hp → Prop, (∃ m, W 0 m (upd H1 D (.dK []))) ∧ ∀ i m H, W i m H →
  (J.stop i H ∧ Q (.ref D) H) ∨ (J.go i H ∧ ∃ Nx : Hp → Prop, (∀ H', Nx H' → ∃ m', m' < m ∧ W (i + 1) m' H') ∧ ∀ x H', J.yld i H x H' → g x (wipe σ vs) H' fun σ2 H2 => wipe σ2 vs = wipe σ vs ∧
    tk σ2 H2 fun y H4 => tv σ2 H4 fun z H5 => ∃ kvs k, y = kV k ∧ H5 D = some (.dK kvs) ∧ kvs.length < sizeLine ∧ Nx (upd H5 D (.dK (putK kvs k z))))
theorem pe_dcE {kx vx tg iter : Expr} {scope : Scope} {own : List (Str × Nat)} {pos : Pos} {wi : TI} {g : TG} {tk tv : TE} (hc : X.calm = true) (hN : X.N.Nodup) (tk0 : Takes X (fun cls d _ H => E cls d H)) (hst : X.stack = X.env :: X.outer) (hf : X.env.frame = some X.env.locals)
    (hi : PI X tg iter wi) (ok : BlkOk X.N X.env.scope scope own) (hg : ∀ (s : Shared) (H : Hp) (C : Addr) (cl : List (Str × Addr)) (fp : List Addr), PG (X.blk s H scope (compEnvC scope cl C X.env) fp) tg g)
    (hk : ∀ (s : Shared) (H : Hp) (C : Addr) (cl : List (Str × Addr)) (fp : List Addr), PE (X.blk s H scope (compEnvC scope cl C X.env) fp) kx tk)
    (he : ∀ (s : Shared) (H : Hp) (C : Addr) (cl : List (Str × Addr)) (fp : List Addr) (xe : Value → Shared → Prop), Passes (L2.CX X.prog X.w) ((X.blk s H scope (compEnvC scope cl C X.env) fp).wish xe) E → PE ((X.blk s H scope (compEnvC scope cl C X.env) fp).wish xe) vx tv)
    (hsf : ∀ x, foldedSetIterable iter X.env x = pure x := by intro _; rfl) :
    PE X (.DictComp kx vx [⟨tg, iter, [], 0⟩] scope pos) (tDcE wi g tk tv (own.map (·.2))) := by
  refine ⟨fun pins s σ H Q I h => ?_⟩
  rw [arm_eval_DictComp]
  have hfree : ∀ y ∈ scope.names, y.2 = .free → ∃ c, X.env.cells.lookup y.1 = some c := fun y hy e =>
    (ok.free y hy e).elim (fun k => I.ok.has _ (.inl k)) fun k => I.ok.has _ (.inr k)
  refine comprehension_at (use := none) rfl hsf (closure_ok hfree) ok.kind (fun y hy e => by rw [ok.uniq y hy, e]) (thn (hi.run pins s σ H _ I h) fun xv s1 hx => thn hx fun itv s2 h2 => ?_)
  obtain ⟨it, fp, tn, J, H2, rfl, I2, T, st2, f2, q⟩ := h2
  refine wpAny_newObj_type (newEnv_comp ?_)
  obtain ⟨W, ⟨m0, w0⟩, turn⟩ := q s2.heap.objs.size (I2.hok.fresh (Nat.le_refl _))
  have I3 : Inv X pins σ (upd H2 s2.heap.objs.size (.dK [])) { s2 with heap := s2.heap.push { cls := .type "dict", data := .dict #[] } } :=
    I2.laid (t' := s2.toks) (fun b o e => Heap.get?_push_of_some _ e) (Nat.le_refl _) (dk_empty s2.heap I2.big)
  have small : ∀ b ∈ fp, b < s2.heap.objs.size := fun b hb => Heap.lt_size (T.obj _ _ st2 b hb).choose_spec.1
  have nD : ∀ b ∈ fp, b ≠ s2.heap.objs.size := fun b hb => Nat.ne_of_lt (small b hb)
  have f3 : ∀ b ∈ fp, FpOk X pins (upd H2 s2.heap.objs.size (.dK [])) b := fun b hb => ⟨by rw [upd_ne (nD b hb)]; exact (f2 b hb).1, (f2 b hb).2⟩
  have st3 : tn 0 (s2.heap.push { cls := .type "dict", data := .dict #[] }) := T.keep _ _ _ st2 fun b _ o e => Heap.get?_push_of_some _ e
  obtain ⟨D, hD⟩ : ∃ D, D = s2.heap.objs.size := ⟨_, rfl⟩
  obtain ⟨s3, hs3⟩ : ∃ s3 : Shared, s3 = { s2 with heap := s2.heap.push { cls := .type "dict", data := .dict #[] } } := ⟨_, rfl⟩
  obtain ⟨H3, hH3⟩ : ∃ H3 : Hp, H3 = upd H2 s2.heap.objs.size (.dK []) := ⟨_, rfl⟩
  have small3 : ∀ b ∈ fp, b < s3.heap.objs.size := fun b hb => by
    rw [hs3]
    exact Nat.lt_of_lt_of_le (small b hb) (by rw [Heap.size_push]; exact Nat.le_succ _)
  have st3 : tn 0 s3.heap := by rw [hs3]; exact st3
  rw [← hD] at turn
  rw [← hH3, ← hs3] at I3
  rw [← hH3] at f3 w0
  have I4 := block_start I3 ok hN fun b hb => ⟨f3 b hb, small3 b hb⟩
  obtain ⟨ce, hce⟩ : ∃ ce : Env, ce = compEnvC scope (cellsFrom (s3.heap.objs.size + 1) scope.names (cloFrom X.env.cells scope.names [])) s3.heap.objs.size X.env := ⟨_, rfl⟩
  obtain ⟨s4, hs4⟩ : ∃ s4 : Shared, s4 = { s3 with heap := pushCells (s3.heap.push { cls := .type "dict", data := .dict #[] }) scope.names } := ⟨_, rfl⟩
  have st4 : tn 0 s4.heap := T.keep _ _ _ st3 fun b _ o e => by rw [hs4]; exact pushCells_keeps _ _ _ _ (Heap.get?_push_of_some _ e)
  have pg := hg s3 H3 s3.heap.objs.size (cellsFrom (s3.heap.objs.size + 1) scope.names (cloFrom X.env.cells scope.names [])) fp
  have pk := hk s3 H3 s3.heap.objs.size (cellsFrom (s3.heap.objs.size + 1) scope.names (cloFrom X.env.cells scope.names [])) fp
  have pv' := he s3 H3 s3.heap.objs.size (cellsFrom (s3.heap.objs.size + 1) scope.names (cloFrom X.env.cells scope.names [])) fp
  have cL : ce.locals = s3.heap.objs.size := by rw [hce]; rfl
  have hcf : ce.frame = X.env.frame := by rw [hce]; rfl
  rw [← hce] at I4 pg pk pv'
  rw [← hs4] at I4
  rw [← hs3, ← hD]
  show codeAny _ _ (.compStart (.DictComp kx vx [⟨tg, iter, [], 0⟩] scope pos) 0 (.ref it) (.ref D) (compEnvC scope (cellsFrom (s3.heap.objs.size + 1) scope.names (cloFrom X.env.cells scope.names [])) s3.heap.objs.size X.env))
    (compEnds (model X.prog X.w) X.A X.xe none (EP X pins σ Q) (.ref D) (compEnvC scope (cellsFrom (s3.heap.objs.size + 1) scope.names (cloFrom X.env.cells scope.names [])) s3.heap.objs.size X.env)) { s3 with heap := pushCells (s3.heap.push { cls := .type "dict", data := .dict #[] }) scope.names }
  rw [← hce, ← hs4]
  have stat : ∀ {σ' : L2.St} {H' : Hp} {s' : Shared}, Inv (X.blk s3 H3 scope ce fp) [] σ' H' s' → (∀ b ∈ fp, H' b = none) → ∀ b ∈ fp, FpOk (X.blk s3 H3 scope ce fp) [] H' b := fun {σ' H' s'} I' hn b hb =>
    ⟨hn b hb, (I'.ok.exf b hb).1, I'.ok.exfs b hb, .inl hb, fun x c e => (I'.ok.exf b hb).2 x c e, fun p hp => absurd (show p ∈ ([] : List (Addr × Obj)) ++ [] from hp) (by simp)⟩
  have loop : codeAny (model X.prog X.w) X.A (.compLoop (.DictComp kx vx [⟨tg, iter, [], 0⟩] scope pos) 0 (.ref it) (.ref D) ce) (compEnds (model X.prog X.w) X.A X.xe none (EP X pins σ Q) (.ref D) ce) s4 := by
    refine compLoop_anyD (fun n s' => ∃ i H', Inv (X.blk s3 H3 scope ce fp) [] (wipe σ (own.map (·.2))) H' s' ∧ tn i s'.heap ∧ (∀ b ∈ fp, H' b = none) ∧ W i n H') ?_ m0 ⟨0, H3, I4, st4, fun b hb => (f3 b hb).1, w0⟩
    rintro n s5 ⟨i, H5, I5, st5, n5, w5⟩
    rcases turn i n H5 w5 with ⟨stop, qq⟩ | ⟨go, Nx, hNx, step⟩
    · refine thnF (T.done (X.blk s3 H3 scope ce fp) rfl rfl rfl hc i [] s5 _ H5 (fun _ _ => False) I5 (stat I5 n5) st5 stop) fun r s6 ⟨hr, I6⟩ => ?_
      subst hr
      have I7 : Inv X pins σ H5 s6 := I3.call' (ch := fp) I6.os I6.base I6.hok I6.bare fun b hb => ⟨(f3 b hb).2.2.2.1, (f3 b hb).2.1, (f3 b hb).2.2.2.2.1, (f3 b hb).2.2.2.2.2⟩
      have nC : H5 s3.heap.objs.size = none := by
        have z : H5 ce.locals = none := I6.free
        rw [cL] at z
        exact z
      obtain ⟨m, hn, _⟩ := I6.loc
      have hn : s6.heap.Ns ce.locals m := hn
      obtain ⟨g0, g1, g2, g3, g4, g5⟩ := I3.fpOk (Nat.le_refl _) nC
      exact ⟨m, hn, fun h' sb => ⟨.ref D, H5, I7.turned (t' := s6.toks) (fun b o hb e => (sb.2 b (by rw [cL]; exact hb)).trans e) g0 g1 g3 g4 g5, rfl, qq⟩⟩
    · refine thnF (T.item (X.blk s3 H3 scope ce fp) rfl rfl rfl hc i [] s5 _ H5 (fun _ _ => False) I5 (stat I5 n5) st5 go) fun r s6 ⟨u, hr, h6⟩ => ?_
      subst hr
      refine thnF h6 fun _ s7 ⟨x, H7, I7, r7, y7, st7, n7⟩ => ?_
      have I7' := I7.pinned (stat I7 n7) (T.obj _ _ st7)
      refine thnF (pg.run _ s7 _ H7 x u _ I7' r7 (step x H7 y7)) fun _ s8 ⟨σ8, H8, I8, hw8, q8⟩ => ?_
      refine wpAny_pure ?_
      simp only [if_true]
      refine thnF (pk.run _ s8 σ8 H8 _ I8 q8) fun z s10 ⟨yk, H10, I10, r10, q10⟩ => ?_
      have run := (pv' (notedBy (model X.prog X.w) X.A ce fun e s2 => compEnds (model X.prog X.w) X.A X.xe none (EP X pins σ Q) (.ref D) ce (.error e) s2) (fun pn σ' H' sx e sy Ix c => out tk0 hst hf hcf cL I3 f3 Ix c)).run _ s10 σ8 H10 _ (I10.wish _) q10
      refine wpAny_mono run (fun z2 s11 ⟨yv, H11, I11, r11, kvs, k, ek, hD11, hz11, nx⟩ => ?_) fun _ _ h => h
      subst ek
      refine d_dictSet (X := X.blk s3 H3 scope ce fp) I11.unwish hD11 hz11 r10 r11 fun s12 I12 => ?_
      obtain ⟨m', hm, w'⟩ := hNx _ nx
      have pin' : ∀ b ∈ fp, ∀ o, s7.heap.get? b = some o → s12.heap.get? b = some o ∧ upd H11 D (.dK (putK kvs k yv)) b = none := fun b hb o e =>
        let z := I12.pin (b, o) (List.mem_append_right _ (List.mem_append_right _ (mem_pinsAt hb e)))
        ⟨z.1, z.2.1⟩
      have hl : (wipe σ (own.map (·.2))).length = σ8.length := by rw [← hw8, wipe_length]
      refine ⟨m', hm, i + 1, _, (I12.unpinned (pins := [])).weak hl (fun j v e => ?_), T.keep _ _ _ st7 fun b hb o e => (pin' b hb o e).1, fun b hb => ?_, w'⟩
      · rw [← hw8] at e
        exact (wipe_some e).1
      · obtain ⟨o, e, _⟩ := T.obj _ _ st7 b hb
        exact (pin' b hb o e).2
  exact codeAny_compStart_dict loop (T.self X.A 0 _ _ _ st4 loop)
/-- over a list that stays -/
theorem dce_list {K : PySem.W.Frag} {a : Addr} {xs : List V} {g : TG} {tk tv : TE} {vs : List Nat} {σ : L2.St} {H1 : Hp} {D : Addr} {Qd : Hp → Prop} (Pv : Nat → Hp → Prop) (h0 : Pv 0 (upd H1 D (.dK []))) (hl : ∀ i H, i ≤ xs.length → Pv i H → SqL K H a xs)
    (hs : ∀ i x H, xs[i]? = some x → Pv i H → g x (wipe σ vs) H fun σ2 H2 => wipe σ2 vs = wipe σ vs ∧ tk σ2 H2 fun y H4 => tv σ2 H4 fun z H5 => ∃ kvs k, y = kV k ∧ H5 D = some (.dK kvs) ∧ kvs.length < sizeLine ∧ Pv (i + 1) (upd H5 D (.dK (putK kvs k z)))) (hd : ∀ H, Pv xs.length H → Qd H) :
    ∃ W : Nat → Nat → Hp → Prop, (∃ m, W 0 m (upd H1 D (.dK []))) ∧ ∀ i m H, W i m H → ((Itl K a).stop i H ∧ Qd H) ∨ ((Itl K a).go i H ∧ ∃ Nx : Hp → Prop, (∀ H', Nx H' → ∃ m', m' < m ∧ W (i + 1) m' H') ∧
      ∀ x H', (Itl K a).yld i H x H' → g x (wipe σ vs) H' fun σ2 H2 => wipe σ2 vs = wipe σ vs ∧ tk σ2 H2 fun y H4 => tv σ2 H4 fun z H5 => ∃ kvs k, y = kV k ∧ H5 D = some (.dK kvs) ∧ kvs.length < sizeLine ∧ Nx (upd H5 D (.dK (putK kvs k z)))) := by
  refine ⟨fun i m H => m + i = xs.length ∧ Pv i H, ⟨xs.length, rfl, h0⟩, fun i m H ⟨hm, p⟩ => ?_⟩
  have q := hl i H (by omega) p
  by_cases hi : i < xs.length
  · refine .inr ⟨⟨xs, xs[i], q, List.getElem?_eq_getElem hi⟩, Pv (i + 1), fun H' p' => ⟨m - 1, by omega, by omega, p'⟩, fun x H' ⟨e, y⟩ => ?_⟩
    subst e
    exact hs i x _ (y xs q) p
  · have e : i = xs.length := by omega
    subst e
    exact .inl ⟨⟨xs, q, Nat.le_refl _⟩, hd H p⟩
end
end DcE
set_option autoImplicit true
set_option Elab.async false
set_option linter.all false
set_option maxRecDepth 100000
set_option maxHeartbeats 4000000
namespace DcE
open PySem PySem.Spec PyProof.Rows L2
/-- {k: v}, k a tuple of ints and texts -/
def postT (p : Addr) (Q : VK) : List (V × V) → Hp → Prop := fun ps H2 => H2 p = some (.dT []) ∧ ∃ (b : Addr) (ks : List Key) (y : V), ps = [(.ref b, y)] ∧ H2 b = some (.tup (ks.map kV)) ∧ Q (.ref p) (upd H2 p (.dT [(ks, y)]))
def tDispT (tk tv : TE) : TE := fun σ H Q => ∀ p, H p = none → tPairs [(tk, tv)] σ (upd H p (.dT [])) (postT p Q)
theorem pe_dispT {X : Cx} {k v : Expr} {pos : Pos} {tk tv : TE} (hu : X.A.units + 1 < cLine) (hk : PE X k tk) (hv : PE X v tv) : PE X (.Dict [some k] [v] pos) (tDispT tk tv) := by
  refine ⟨fun pins s σ H Q I q => ?_⟩
  have hn := I.hok.fresh (Nat.le_refl s.heap.objs.size)
  have I1 := I.laid (a := s.heap.objs.size) (o := .dT []) (h' := s.heap.push { cls := .type "dict", data := .dict #[] }) (t' := s.toks) (fun _ _ z => Heap.get?_push_of_some _ z) (Nat.le_refl _) (dt_empty s.heap I.big)
  rw [arm_eval_Dict, zip_pairTrees [some k] [v] X.env pos rfl rfl, dictDisplay_pairs _ (by intro z; cases z) (by show 1 < _; decide)]
  refine wpAny_bind (wpAny_standAt (wpAny_bind (wpAny_subDictH (knd := tupleKind (mixKind X.prog X.w)) (Q := fun d s' => wpAny (model X.prog X.w) X.A (pure (Value.ref d)) (EP X pins σ Q) X.xe s') ?_ (by show 1 ≤ 15; decide) (thn ((pps_cons hk hv pps_nil).run pins _ σ _ _ I1 (q _ hn)) fun ws s2 h2 => ?_))))
  · exact (show X.A.units < cLine by omega)
  · obtain ⟨ps, H2, I2, rel, e, b, ks, y, rfl, eb, q2⟩ := h2
    cases rel with
    | cons r1 r2 =>
      rename_i vk ws'
      cases r2
      obtain ⟨u1, u2⟩ := vk
      obtain ⟨rk, rv⟩ := r1
      have ek : u1 = Value.ref b := rk
      subst ek
      obtain ⟨z, hd, xs, rel, dd⟩ := dt_of I2.hok e
      cases rel
      refine ⟨[(ks, b, u2)], ⟨rfl, rfl, key_of I2.hok eb, True.intro⟩, dd, fun h' tk dd' hs => wpAny_pure ⟨.ref s.heap.objs.size, _, ?_, rfl, q2⟩⟩
      obtain ⟨o, es, ep, ho, h2, h3, h4, _, h5⟩ := dd'
      refine d_write I2 (by rw [e]; exact True.intro) hs ⟨o, ho⟩ ⟨by show 1 ≤ sizeLine; decide, hd, [(ks, b, u2)], .cons ⟨rfl, ?_, rv⟩ .nil, o, es, ep, ho, h2, h3, h4, h5⟩
      rw [upd_ne (ne_of eb e (fun z => nomatch z))]
      exact eb
end DcE
set_option autoImplicit true
set_option Elab.async false
set_option linter.all false
set_option maxRecDepth 100000
set_option maxHeartbeats 4000000
namespace Cm
open PySem PySem.Spec PyProof.Rows L2
/-- all but l is as it was -/
def But (l : Addr) (H H' : Hp) : Prop := ∀ b o, b ≠ l → H b = some o → H' b = some o
theorem But.refl (l : Addr) (H : Hp) : But l H H := fun _ _ _ h => h
theorem But.trans {l : Addr} {H H1 H2 : Hp} (a : But l H H1) (b : But l H1 H2) : But l H H2 := fun c o n h => b c o n (a c o n h)
theorem But.upd {l : Addr} {H : Hp} {o : HO} : But l H (upd H l o) := fun b u n h => by rw [upd_ne n]; exact h
theorem But.new {l p : Addr} {H : Hp} {o : HO} (h : H p = none) : But l H (L2.upd H p o) := fun b u n e => by rw [upd_ne (ne_of_none e h)]; exact e
theorem mod_nat {x b : Int} (h : 0 < b) : ∃ d : Nat, (d : Int) < b ∧ x % b = (d : Int) := by
  have h1 := Int.emod_nonneg x (show b ≠ 0 by omega)
  have h2 := Int.emod_lt_of_pos x h
  exact ⟨(x % b).toNat, by omega, by omega⟩
theorem same_new {H : Hp} {p : Addr} {o : HO} (h : H p = none) : Same H (upd H p o) := fun b x e => by
  rw [upd_ne (ne_of_none e h)]
  exact e
theorem same_mut {H H' : Hp} {p : Addr} {o : HO} (h : H p = none) (s : Same H H') : Same H (upd H' p o) := fun b x e => by
  rw [upd_ne (ne_of_none e h)]
  exact s b x e
theorem Same.but {H H' : Hp} (l : Addr) (s : Same H H') : But l H H' := fun b o _ h => s b o h
/-! ### statements by what holds ahead and behind -/
def Ho (X : Cx) (st : Stmt) (p q : L2.St → Hp → Prop) : Prop := ∃ t, PS X st t ∧ ∀ (D : Ends) σ H, p σ H → (∀ σ' H', q σ' H' → D.nx σ' H') → t D σ H
def HoR (X : Cx) (sts : List Stmt) (p : L2.St → Hp → Prop) (r : VK) : Prop := ∃ t, PSs X sts t ∧ ∀ (D : Ends) σ H, p σ H → (∀ v H', r v H' → D.rt v H') → t D σ H
theorem HoR.cons {X : Cx} {st : Stmt} {rest : List Stmt} {p q : L2.St → Hp → Prop} {r : VK} (a : Ho X st p q) (b : HoR X rest q r) : HoR X (st :: rest) p r := by
  obtain ⟨t, ht, h1⟩ := a
  obtain ⟨u, hu, h2⟩ := b
  exact ⟨_, pss_cons ht hu, fun D σ H hp hr => h1 _ σ H hp fun σ' H' hq => h2 D σ' H' hq hr⟩
/-- a def, called by its name -/
structure Cl (P : Program) (w : World) (K : PySem.W.Frag) (mg : Str → Option Value) (base : Heap) (CX : CXT) (k : Nat) (x : Str) (ps : List Str) (sp : Sp) : Prop where
  ex : ∃ f fd, FnOk P w K mg base CX k f fd ps sp ∧ mg x = some (.ref f) ∧ PySem.W.keepIn K (.ref f) = true ∧ Binds K fd ps []
section
variable {X : Cx} {CX : CXT} {k j : Nat} {x : Str} {ps : List Str} {sp : Sp} {e : Expr} {es : List Expr} {t : TA} {p pos : Pos} {E : XK}
theorem pe_cl (c : Cl X.prog X.w X.K X.mg X.base CX k x ps sp) (hr : Room j X.A) (hk : k ≤ j) (hg : Gl X x) (hx : Passes CX X E) (ha : PA X (e :: es) t)
    (hdb : (x == ("__debug__" : Str)) = false := by decide) (he : starEach (e :: es) X.env = (false, eval e X.env) :: starEach es X.env := by rfl) (hpl : (backTo pos (starEach es X.env)).any (·.1) = false := by rfl) :
    PE X (.Call (.Name x p) (e :: es) [] pos) (tCall sp [] E t) := by
  obtain ⟨f, fd, F, hm, kp, b⟩ := c.ex
  exact pe_call F (hr.mono hk) hg hm kp b .nil hx ha hdb he hpl
theorem pe_cl0 (c : Cl X.prog X.w X.K X.mg X.base CX k x ps sp) (hr : Room j X.A) (hk : k ≤ j) (hg : Gl X x) (hx : Passes CX X E)
    (hdb : (x == ("__debug__" : Str)) = false := by decide) : PE X (.Call (.Name x p) [] [] pos) (tCall sp [] E tNil) := by
  obtain ⟨f, fd, F, hm, kp, b⟩ := c.ex
  exact pe_call0 F (hr.mono hk) hg hm kp b .nil hx hdb
end
/-- xs + ys, lists that are read -/
def rCatS (K : PySem.W.Frag) : R2 := fun x y H Q => ∃ l b xs zs, x = .ref l ∧ y = .ref b ∧ SqL K H l xs ∧ SqL K H b zs ∧ xs.length + zs.length ≤ sizeLine ∧ ∀ p, H p = none → Q (.ref p) (upd H p (.lst (xs ++ zs)))
theorem op_catS {X : Cx} : OpR X (binaryOp .Add) (rCatS X.K) := by
  intro pins s σ H x y v u Q I rx ry h
  obtain ⟨l, b, xs, zs, rfl, rfl, hl, hb, hz, q⟩ := h
  cases rx
  cases ry
  obtain ⟨its, r, ⟨⟨c1, d1, t1, sl1⟩, n1, e1, k1, m1, f1⟩, z1⟩ := I.list hl
  obtain ⟨its2, r2, ⟨⟨c2, d2, t2, sl2⟩, n2, e2, k2, m2, f2⟩, z2⟩ := I.list hb
  dsimp only at k1 m1 f1 k2 m2 f2
  subst k1 m1 f1 k2 m2 f2
  have hl1 := r.length
  have hl2 := r2.length
  refine concat_meets ⟨_, e1, rfl⟩ ⟨_, e2, rfl⟩ noFill_list_add seq_list_add PySem.F.slot_list_add PySem.F.entry_list_add (PySem.F.args_list_add_2 _ _) (list_addW l b its.toArray its2.toArray n1 n2 none none sl1 sl2 (by rw [List.size_toArray, List.size_toArray, ← hl1, ← hl2]; exact hz)) ⟨e1, e2, ?_⟩
  have ea : its.toArray ++ its2.toArray = (its ++ its2).toArray := by simp
  rw [ea]
  exact ⟨.ref _, _, I.lnew (t' := s.toks) (r.append r2) (by rw [List.length_append]; exact hz), rfl, q _ I.fresh⟩
/-- a def of the top -/
structure FnFact (K : PySem.W.Frag) (x : Str) (st : Stmt) : Prop where
  ex : ∃ f fd, PySem.W.nsIn K mainGlobals x = some (some (.ref f)) ∧ Fun K x x st f fd
theorem FnFact.of {K : PySem.W.Frag} {x : Str} {st : Stmt} {f : Addr} {oc : Value} {od an : Option Addr} {sl : Array (Option Value)} {kV dc pm cd ct : Value} (a : PySem.W.nsIn K mainGlobals x = some (some (.ref f)))
    (l : K.lookup f = some ⟨oc, od, .func (PySem.W.fnOf x x (defArgs st) (defBody st) (defScope st) .none kV dc pm an cd ct), sl⟩) (c : PySem.W.codeIn K cd x = true) (k : PySem.W.keepIn K (.ref f) = true) : FnFact K x st :=
  ⟨f, _, a, fun_mk l c k⟩
theorem Cl.of {P : Program} {w : World} {K : PySem.W.Frag} {mg : Str → Option Value} {base : Heap} {CX : CXT} {k : Nat} {x : Str} {st : Stmt} {f : Addr} {fd : FuncData} {ps : List Str} {sp : Sp} {h : Heap} (X : K.In h) (G : h.Ns mainGlobals mg) (a : PySem.W.nsIn K mainGlobals x = some (some (.ref f)))
    (F : Fun K x x st f fd) (b : Binds K fd ps []) (o : FnOk P w K mg base CX k f fd ps sp) : Cl P w K mg base CX k x ps sp := ⟨f, fd, o, PySem.W.mg_of X G a, F.kp, b⟩
/-- the state of the draws -/
def StOk (st : List V) : Prop := (∃ c, st = [.int c]) ∨ ∃ a b c, st = [.int a, .int b, .int c]
/-- _law_digit -/
def spDigit : Sp := fun vs H Q _ => ∃ l st base, vs = [.ref l, .int base] ∧ H l = some (.lst st) ∧ StOk st ∧ 0 < base ∧ base < 1073741824 ∧
  ∀ (d : Nat) st' H', (d : Int) < base → StOk st' → H' l = some (.lst st') → But l H H' → Q (.int d) H'
/-- the state's list, all else as at the entry -/
structure Bs (H : Hp) (l : Addr) (H' : Hp) : Prop where
  st : ∃ st, H' l = some (.lst st) ∧ StOk st
  but : But l H H'
theorem Bs.same {H H1 H2 : Hp} {l : Addr} (b : Bs H l H1) (s : Same H1 H2) : Bs H l H2 := ⟨let ⟨st, h, o⟩ := b.st; ⟨st, s _ _ h, o⟩, b.but.trans (Same.but l s)⟩
theorem Bs.trans {H H1 H2 : Hp} {l : Addr} (a : Bs H l H1) (b : Bs H1 l H2) : Bs H l H2 := ⟨b.st, a.but.trans b.but⟩
end Cm
set_option autoImplicit true
set_option Elab.async false
set_option linter.all false
set_option maxRecDepth 100000
namespace Tx
open PySem PySem.Spec PyProof.Rows L2
/-! ### the text by places -/
def topS (i : Nat) : Stmt := PySem.Challenge.pw_spreadmounts_k28_groups_that_end.main.body.getD i (.Pass ⟨0, 0, 0, 0⟩)
abbrev sWhole : Stmt := topS 28
abbrev sName : Stmt := topS 29
abbrev sPath : Stmt := topS 30
abbrev sAbs : Stmt := topS 31
abbrev sParts : Stmt := topS 32
abbrev sNode : Stmt := topS 33
abbrev sTree : Stmt := topS 34
abbrev sWalkerC : Stmt := topS 38
abbrev sSpaceRoot : Stmt := topS 39
abbrev sWalkIn : Stmt := topS 40
abbrev sEntry : Stmt := topS 44
abbrev sIsDeed : Stmt := topS 45
abbrev sMountIn : Stmt := topS 47
abbrev sDoMake : Stmt := topS 56
abbrev sMakeOne : Stmt := topS 58
abbrev sDoClone : Stmt := topS 59
abbrev sMakeDeed : Stmt := topS 67
abbrev sSureDeed : Stmt := topS 68
abbrev sMountC : Stmt := topS 70
abbrev sTableC : Stmt := topS 71
abbrev sAreTrees : Stmt := topS 73
abbrev sWorldC : Stmt := topS 74
abbrev sCell : Stmt := topS 77
abbrev sDigit : Stmt := topS 78
abbrev sDue : Stmt := topS 79
abbrev sEnded : Stmt := topS 80
abbrev sMade : Stmt := topS 81
abbrev sRight : Stmt := topS 82
abbrev sLaw : Stmt := topS 83
end Tx
set_option autoImplicit true
set_option Elab.async false
set_option linter.all false
set_option maxRecDepth 100000
set_option maxHeartbeats 4000000
namespace Tx
open PySem PySem.Spec PyProof.Rows L2 Cm
/-! ### whole numbers, names, paths -/
inductive Wh (K : PySem.W.Frag) (H : Hp) : V → Int → Int → Bool → Prop
  | int (i lo hi : Int) : Wh K H (.int i) lo hi (decide (lo ≤ i) && decide (i ≤ hi))
  | bl (b : Bool) (lo hi : Int) : Wh K H (.bl b) lo hi false
  | other {x : V} {n : String} (lo hi : Int) (ty : TyX K H x (.type n)) (h : kitB n "int" = some false) : Wh K H x lo hi false
def spWhole (K : PySem.W.Frag) : Sp := fun vs H Q _ => ∃ x lo hi b, vs = [x, .int lo, .int hi] ∧ Wh K H x lo hi b ∧ Q (.bl b) H
def letters : Str := "abcdefghijklmnopqrstuvwxyz"
def signB (c : Nat) : Bool := decide (c ∈ letters.cps.toList)
def nameB (z : Str) : Bool := decide (1 ≤ (z.length : Int)) && (decide ((z.length : Int) ≤ 8) && (z.cps.toList.map signB).all id)
def dots : List V := [.str ".", .str ".."]
def wordB (z : Str) : Bool := inV (.str z) dots || nameB z
def wordsOf (z : Str) : List Str := Txt.split (Txt.removeprefix z "/") "/"
def pathB (z : Str) : Bool := if z = "" then false else if z = "/" then true else ((wordsOf z).map wordB).all id
/-- a text, or something else -/
inductive Tn (K : PySem.W.Frag) (H : Hp) (f : Str → Bool) : V → Bool → Prop
  | str (z : Str) (h : z.length ≤ 100000) : Tn K H f (.str z) (f z)
  | other {x : V} {n : String} (ty : TyX K H x (.type n)) (h : kitB n "str" = some false) : Tn K H f x false
def spName (K : PySem.W.Frag) : Sp := fun vs H Q _ => ∃ x b, vs = [x] ∧ Tn K H nameB x b ∧ ∀ H', Same H H' → Q (.bl b) H'
def spPath (K : PySem.W.Frag) : Sp := fun vs H Q _ => ∃ x b, vs = [x] ∧ Tn K H pathB x b ∧ ∀ H', Same H H' → Q (.bl b) H'
/-- the names that stand as built-ins -/
structure Bi (mg : Str → Option Value) : Prop where
  isin : mg "isinstance" = none
  int : mg "int" = none
  bool : mg "bool" = none
  str : mg "str" = none
  dict : mg "dict" = none
  tuple : mg "tuple" = none
  range : mg "range" = none
  len : mg "len" = none
  all : mg "all" = none
  any : mg "any" = none
  sorted : mg "sorted" = none
/-- the constants -/
structure Co (mg : Str → Option Value) : Prop where
  letters : ∃ t, mg "LETTERS" = some (.str letters t)
  nodes : ∃ t, mg "MOST_NODES" = some (.int 60 t)
  depth : ∃ t, mg "MOST_DEPTH" = some (.int 8 t)
theorem scWhole : FnScope ["thing", "low", "high"] ["thing", "low", "high"] (defScope sWhole) := ⟨rfl, rfl, rfl, by decide +kernel, rfl, by decide +kernel, by decide +kernel⟩
theorem scName : FnScope ["thing", "sign"] ["thing"] (defScope sName) := ⟨rfl, rfl, rfl, by decide +kernel, rfl, by decide +kernel, by decide +kernel⟩
theorem scPath : FnScope ["thing", "words", "word"] ["thing"] (defScope sPath) := ⟨rfl, rfl, rfl, by decide +kernel, rfl, by decide +kernel, by decide +kernel⟩
theorem take_snoc {α : Type} {l : List α} {i : Nat} {x : α} (h : l[i]? = some x) : l.take (i + 1) = l.take i ++ [x] := by
  rw [List.take_add_one, h]
  rfl
section
variable {P : Program} {w : World} {K : PySem.W.Frag} {mg : Str → Option Value} {base : Heap}
theorem ok_whole {f : Addr} {fd : FuncData} {k : Nat} (F : Fun K "is_whole" "is_whole" sWhole f fd) (B : Bi mg) : FnOk P w K mg base CX0 (k + 1) f fd ["thing", "low", "high"] (spWhole K) := by
  refine F.ok scWhole (fun vs H Q E h => ?_) (fun cdv A outer s H vs Q E hr h => ?_)
  · obtain ⟨x, lo, hi, b, rfl, _⟩ := h
    rfl
  · obtain ⟨x, lo, hi, b, rfl, hw, q⟩ := h
    refine ⟨_, pss_one (ps_ret (pe_and (pe_callB call_isi (by rfl) B.isin (by decide +kernel) (pa_cons (pv 0) (pa_cons (pe_bltn (v := .ty "int") (by rfl) B.int (by decide +kernel) rfl) pa_nil)))
      (pe_and (pe_not (pe_callB call_isi (by rfl) B.isin (by decide +kernel) (pa_cons (pv 0) (pa_cons (pe_bltn (v := .ty "bool") (by rfl) B.bool (by decide +kernel) rfl) pa_nil))))
        (pe_one (pe_chain op_le op_le (pv 1) (pv 0) (pv 2)))))), ?_⟩
    cases hw with
    | int i =>
      refine ⟨_, rfl, _, .ty "int", _, _, true, rfl, .ty _, .base (.int i), kit_ty (by decide +kernel), _, rfl, iteT ?_⟩
      refine ⟨_, rfl, _, .ty "bool", _, _, false, rfl, .ty _, .base (.int i), kit_ty (by decide +kernel), _, rfl, _, rfl, iteT ?_⟩
      refine ⟨_, rfl, _, rfl, _, _, rfl, rfl, _, rfl, ite2 (fun h => ?_) (fun h => ?_)⟩
      · refine ⟨_, rfl, _, _, rfl, rfl, ?_⟩
        rw [h] at q
        exact q
      · have h' : decide (lo ≤ i) = false := by simpa using h
        rw [h'] at q
        exact q
    | bl b =>
      refine ⟨_, rfl, _, .ty "int", _, _, true, rfl, .ty _, .base (.bl b), kit_ty (by decide +kernel), _, rfl, iteT ?_⟩
      refine ⟨_, rfl, _, .ty "bool", _, _, true, rfl, .ty _, .base (.bl b), kit_ty (by decide +kernel), _, rfl, _, rfl, iteF ?_⟩
      exact q
    | other _ _ ty hn =>
      exact ⟨_, rfl, _, .ty "int", _, _, false, rfl, .ty _, ty, kit_ty hn, _, rfl, iteF q⟩
/-- [sign in LETTERS for sign in z]: what the list holds -/
theorem signs_at (z : Str) {i : Nat} {c : Nat} (h : z.cps[i]? = some c) : (z.cps.toList.map signB)[i]? = some (signB c) := by
  rw [List.getElem?_map, Array.getElem?_toList, h]
  rfl
theorem ok_name {f : Addr} {fd : FuncData} {k : Nat} (F : Fun K "is_name" "is_name" sName f fd) (B : Bi mg) (C : Co mg) : FnOk P w K mg base CX0 (k + 1) f fd ["thing"] (spName K) := by
  obtain ⟨tl, hL⟩ := C.letters
  refine F.ok scName (fun vs H Q E h => ?_) (fun cdv A outer s H vs Q E hr h => ?_)
  · obtain ⟨x, b, rfl, _⟩ := h
    rfl
  · obtain ⟨x, b, rfl, hw, q⟩ := h
    refine ⟨_, pss_one (ps_ret (pe_and (pe_callB call_isi (by rfl) B.isin (by decide +kernel) (pa_cons (pv 0) (pa_cons (pe_bltn (v := .ty "str") (by rfl) B.str (by decide +kernel) rfl) pa_nil)))
      (pe_and (pe_chain op_le op_le pe_int (pe_callB call_len_str (by rfl) B.len PySem.boot_len (pa_cons (pv 0) pa_nil)) pe_int)
        (pe_one (pe_callB (cr_all rfl) (by rfl) B.all (by decide +kernel) (pa_cons (pe_lc (own := [("sign", 1)]) (g := gName 1) (tt := tYes) (by rfl) scName.nd (pi_str (pv 0)) (blkOk_by (own := [("sign", 1)]) (N := ["thing", "sign"]) (sc := defScope sName) (by decide +kernel)) (fun _ _ _ _ _ => pg_name (i := 1) scName.nd rfl (Or.inl rfl)) (fun _ _ _ _ _ => pts_nil)
          (fun _ _ _ _ _ => pe_cmpR op_in_sign (pv 1) (pe_glob (v := .str letters) (by rfl) hL ⟨_, rfl⟩) rfl)) pa_nil)))))), ?_⟩
    cases hw with
    | other ty hn => exact ⟨_, rfl, _, .ty "str", _, _, false, rfl, .ty _, ty, kit_ty hn, _, rfl, iteF (q H (Same.refl H))⟩
    | str z hz =>
      refine ⟨_, rfl, _, .ty "str", _, _, true, rfl, .ty _, .base (.str z), kit_ty (by decide +kernel), _, rfl, iteT ?_⟩
      refine ⟨_, rfl, z, rfl, Evl.sz_of hz, 1, _, rfl, rfl, _, rfl, ite2 (fun h1 => ?_) (fun h1 => ?_)⟩
      · refine ⟨_, _, rfl, rfl, _, rfl, ite2 (fun h2 => ?_) (fun h2 => ?_)⟩
        · refine ⟨_, rfl, z, rfl, fun D hD => lc_it walk_str (fun i H' => H' D = some (.lst (((z.cps.toList.map signB).take i).map V.bl)) ∧ Same H H') ⟨upd_same, same_new hD⟩ (fun _ _ _ _ => True.intro) ?_ ?_⟩
          · rintro i x H1 H2 hi ⟨h3, sm⟩ ⟨rfl, c, hc, rfl⟩
            refine ⟨rfl, _, rfl, c, letters, rfl, rfl, _, h3, Evl.sz_lt ?_, ?_, same_mut hD sm⟩
            · rw [List.length_map, List.length_take]
              exact Nat.lt_of_le_of_lt (Nat.min_le_left _ _) (Nat.lt_of_lt_of_le hi hz)
            · rw [upd_same, take_snoc (signs_at z hc), List.map_append]
              rfl
          · rintro H1 ⟨h3, sm⟩
            have e : (z.cps.toList.map signB).take z.cps.size = z.cps.toList.map signB := List.take_of_length_le (by rw [List.length_map, Array.length_toList]; exact Nat.le_refl _)
            rw [e] at h3
            refine ⟨D, _, rfl, SqL.of h3, ?_⟩
            have eb : nameB z = (z.cps.toList.map signB).all id := by
              unfold nameB
              rw [h1, h2, Bool.true_and, Bool.true_and]
            rw [← eb]
            exact q H1 sm
        · have eb : nameB z = false := by
            unfold nameB
            have h2' : decide ((z.length : Int) ≤ 8) = false := by simpa using h2
            rw [h2', Bool.false_and, Bool.and_false]
          rw [eb] at q
          exact q H (Same.refl H)
      · have eb : nameB z = false := by
          unfold nameB
          have h1' : decide (1 ≤ (z.length : Int)) = false := by simpa using h1
          rw [h1', Bool.false_and]
        rw [eb] at q
        exact ⟨_, rfl, iteF (q H (Same.refl H))⟩
theorem prefix_le (z : Str) : (Txt.removeprefix z "/").length ≤ z.length := by
  rw [StrLaws.removeprefix_eq]
  split
  · show (((z.cps.toList.drop _).take _).toArray).size ≤ z.cps.size
    rw [List.size_toArray, List.length_take, List.length_drop, Array.length_toList]
    omega
  · exact Nat.le_refl _
theorem opInK {X : Cx} {K : PySem.W.Frag} (h : X.K = K) : OpR X (compareOp .In) (rIn K false) := h ▸ op_in_seq
theorem ok_path {f fN : Addr} {fd fdN : FuncData} {k : Nat} (F : Fun K "is_path" "is_path" sPath f fd) (B : Bi mg) (N : Cl P w K mg base CX0 (k + 1) "is_name" ["thing"] (spName K)) : FnOk P w K mg base CX0 (k + 2) f fd ["thing"] (spPath K) := by
  refine F.ok scPath (fun vs H Q E h => ?_) (fun cdv A outer s H vs Q E hr h => ?_)
  · obtain ⟨x, b, rfl, _⟩ := h
    rfl
  · obtain ⟨x, b, rfl, hw, q⟩ := h
    refine ⟨_, pss_cons (ps_if (PW.pt (pw_or (pt_not (pt_val (pe_callB call_isi (by rfl) B.isin (by decide +kernel) (pa_cons (pv 0) (pa_cons (pe_bltn (v := .ty "str") (by rfl) B.str (by decide +kernel) rfl) pa_nil))))) (pw_or1 (pt_cmpR op_eq (pv 0) pe_str (nomark _))))) (pss_one (ps_ret pe_bl)) pss_nil)
      (pss_cons (ps_if (pt_cmpR op_eq (pv 0) pe_str (nomark _)) (pss_one (ps_ret pe_bl)) pss_nil)
      (pss_cons (ps_set (i := 1) scPath.nd rfl (.inl rfl) (pe_split (pe_bm PySem.F.plainAttrs_str PySem.F.slot_str_removeprefix PySem.F.type_str_removeprefix mt_removeprefix (pv 0) (pa_cons pe_str pa_nil)) pe_str))
      (pss_one (ps_ret (pe_callB (cr_all rfl) (by rfl) B.all (by decide +kernel) (pa_cons (pe_lc (own := [("word", 2)]) (g := gName 2) (tt := tYes) (by rfl) scPath.nd (pi_list (pv 1)) (blkOk_by (own := [("word", 2)]) (N := ["thing", "words", "word"]) (sc := defScope sPath) (by decide +kernel)) (fun _ _ _ _ _ => pg_name (i := 2) scPath.nd rfl (Or.inl rfl)) (fun _ _ _ _ _ => pts_nil)
          (fun _ _ _ _ _ => pe_or (pe_cmpR (opInK (K := K) rfl) (pv 2) (pe_tup (pa_cons pe_str (pa_cons pe_str pa_nil))) (by rfl)) (pe_one (pe_cl N hr (by omega) (by rfl) pass0 (pa_cons (pv 2) pa_nil))))) pa_nil)))))), ?_⟩
    cases hw with
    | other ty hn => exact ⟨_, rfl, _, .ty "str", _, _, false, rfl, .ty _, ty, kit_ty hn, _, rfl, iteT (iteT (q H (Same.refl H)))⟩
    | str z hz =>
      refine ⟨_, rfl, _, .ty "str", _, _, true, rfl, .ty _, .base (.str z), kit_ty (by decide +kernel), _, rfl, iteF ?_⟩
      refine ⟨_, rfl, rfl, _, rfl, ?_⟩
      by_cases e0 : z = ""
      · have eb : pathB z = false := by
          unfold pathB
          rw [if_pos e0]
        rw [eb] at q
        subst e0
        exact iteT (q H (Same.refl H))
      · rw [decide_eq_false (show ¬ V.str z = V.str "" from fun h => e0 (V.str.inj h))]
        refine iteF ⟨_, rfl, rfl, _, rfl, ?_⟩
        by_cases e1 : z = "/"
        · have eb : pathB z = true := by
            unfold pathB
            rw [if_neg e0, if_pos e1]
          rw [eb] at q
          subst e1
          exact iteT (q H (Same.refl H))
        · have eb : pathB z = ((wordsOf z).map wordB).all id := by
            unfold pathB
            rw [if_neg e0, if_neg e1]
          rw [decide_eq_false (show ¬ V.str z = V.str "/" from fun h => e1 (V.str.inj h))]
          refine iteF ⟨_, rfl, rfl, z, _, rfl, rfl, Evl.sz_of hz, ⟨_, rfl⟩, _, _, rfl, rfl, rfl, Nat.le_trans (show _ ≤ 100002 from Nat.add_le_add_right (Nat.le_trans (prefix_le z) hz) 2) (by decide), fun p hp => ?_⟩
          have hall : ∀ v ∈ wordsOf z, v.length ≤ 100000 := fun v hv => Nat.le_trans (part_short hv) (Nat.le_trans (prefix_le z) hz)
          have hlen : (wordsOf z).length < 200000 := Nat.lt_of_le_of_lt (split_le _ _) (Nat.lt_of_le_of_lt (Nat.add_le_add_right (Nat.le_trans (prefix_le z) hz) 2) (by decide))
          refine ⟨_, rfl, p, rfl, ⟨_, SqL.of upd_same⟩, fun D hD => lc_list (K := K) (a := p) (xs := (wordsOf z).map V.str) (fun i H' => H' D = some (.lst ((((wordsOf z).map wordB).take i).map V.bl)) ∧ H' p = some (.lst ((wordsOf z).map V.str)) ∧ Same H H') ⟨upd_same, by rw [upd_ne (ne_of_none upd_same hD)]; exact upd_same, (same_new hp).trans (same_new hD)⟩ (fun i H' _ h => SqL.of h.2.1) ?_ ?_⟩
          · rintro i x H1 hx ⟨h3, h4, sm⟩
            rw [List.getElem?_map] at hx
            cases ew : (wordsOf z)[i]? with
            | none =>
              rw [ew] at hx
              cases hx
            | some wd =>
              rw [ew] at hx
              cases hx
              have hi := (List.getElem?_eq_some_iff.mp ew).1
              have hD0 : H D = none := (same_new hp).free hD
              have np : p ≠ D := ne_of_none (show upd H p _ p = some _ from upd_same) hD
              have fin : ∀ H2, Same H1 H2 → (∃ acc, H2 D = some (.lst acc) ∧ acc.length < sizeLine ∧ upd H2 D (.lst (acc ++ [V.bl (wordB wd)])) D = some (.lst ((((wordsOf z).map wordB).take (i + 1)).map V.bl)) ∧ upd H2 D (.lst (acc ++ [V.bl (wordB wd)])) p = some (.lst ((wordsOf z).map V.str)) ∧ Same H (upd H2 D (.lst (acc ++ [V.bl (wordB wd)])))) := fun H2 s2 => by
                have eg : ((wordsOf z).map wordB)[i]? = some (wordB wd) := by
                  rw [List.getElem?_map, ew]
                  rfl
                refine ⟨_, s2 _ _ h3, Nat.lt_of_lt_of_le (show _ < 200000 from ?_) (by decide), ?_, ?_, same_mut hD0 (sm.trans s2)⟩
                · rw [List.length_map, List.length_take, List.length_map]
                  omega
                · rw [upd_same, take_snoc eg, List.map_append]
                  rfl
                · rw [upd_ne np]
                  exact s2 _ _ h4
              refine ⟨rfl, _, rfl, (by show 2 ≤ sizeLine; decide), fun t ht => ?_⟩
              refine ⟨t, dots, rfl, .inr (SqT.of upd_same), rfl, rfl, _, rfl, ite2 (fun c => ?_) (fun c => ?_)⟩
              · have ew1 : wordB wd = true := by
                  unfold wordB
                  rw [show inV (.str wd) dots = true from c, Bool.true_or]
                have := fin _ (same_new (o := HO.tup dots) ht)
                rw [ew1] at this
                exact this
              · have c' : inV (.str wd) dots = false := by simpa using c
                have ew1 : wordB wd = nameB wd := by
                  unfold wordB
                  rw [c', Bool.false_or]
                refine ⟨_, rfl, _, _, rfl, .str wd (hall wd (List.mem_of_getElem? ew)), fun H2 s2 => ?_⟩
                have := fin _ ((same_new (o := HO.tup dots) ht).trans s2)
                rw [ew1] at this
                exact this
          · rintro H1 ⟨h3, h4, sm⟩
            have e : ((wordsOf z).map wordB).take ((wordsOf z).map V.str).length = (wordsOf z).map wordB := List.take_of_length_le (by rw [List.length_map, List.length_map]; exact Nat.le_refl _)
            rw [e] at h3
            refine ⟨D, _, rfl, SqL.of h3, ?_⟩
            rw [← eb]
            exact q H1 sm
end
end Tx
set_option autoImplicit true
set_option Elab.async false
set_option linter.all false
set_option maxRecDepth 100000
set_option maxHeartbeats 4000000
/-! own objects: fields set one by one -/
namespace Ob
open PySem PySem.Spec PyProof.Rows L2 Cm
/-- statements by what holds ahead and behind -/
def HoS (X : Cx) (sts : List Stmt) (p q : L2.St → Hp → Prop) : Prop := ∃ t, PSs X sts t ∧ ∀ (D : Ends) σ H, p σ H → (∀ σ' H', q σ' H' → D.nx σ' H') → t D σ H
theorem HoS.nil {X : Cx} {p : L2.St → Hp → Prop} : HoS X [] p p := ⟨_, pss_nil, fun D σ H h q => q _ _ h⟩
theorem HoS.cons {X : Cx} {st : Stmt} {rest : List Stmt} {p q r : L2.St → Hp → Prop} (a : Ho X st p q) (b : HoS X rest q r) : HoS X (st :: rest) p r := by
  obtain ⟨t, ht, h1⟩ := a
  obtain ⟨u, hu, h2⟩ := b
  exact ⟨_, pss_cons ht hu, fun D σ H hp hr => h1 _ σ H hp fun σ' H' hq => h2 D σ' H' hq hr⟩
theorem HoS.conseq {X : Cx} {sts : List Stmt} {p p' q q' : L2.St → Hp → Prop} (h : HoS X sts p q) (i : ∀ σ H, p' σ H → p σ H) (j : ∀ σ H, q σ H → q' σ H) : HoS X sts p' q' := by
  obtain ⟨t, a, b⟩ := h
  exact ⟨t, a, fun D σ H z k => b D σ H (i _ _ z) fun σ' H' y => k _ _ (j _ _ y)⟩
/-- the object x, its fields so far; all else as at the start -/
def Fd (σ0 : L2.St) (H0 : Hp) (x C dx : Addr) (fs : List (Str × V)) (n : Nat) : L2.St → Hp → Prop := fun σ H => σ = σ0 ∧ But x H0 H ∧ H x = some (.ins C dx fs) ∧ fs.length ≤ n
theorem putF_len (f : Str) (v : V) : ∀ fs : List (Str × V), (putF f v fs).length ≤ fs.length + 1
  | [] => Nat.le_refl _
  | (g, x) :: r => by
    unfold putF
    split
    · simp
    · have := putF_len f v r
      simp only [List.length_cons]
      omega
section
variable {X : Cx} {σ0 : L2.St} {H0 : Hp} {x C dx : Addr} {fs : List (Str × V)} {f y : Str} {i : Nat} {e : Expr} {te : TE} {v : V} {p p' pos : Pos}
/-- self.f = e, e a value that is there -/
theorem ho_fld (hs : PE X (.Name y p) (tVar i)) (hi : σ0[i]? = some (some (.ref x))) (he : PE X e te) (hv : ∀ H (Q : VK), Q v H → te σ0 H Q) (cl : Cls X.K C) (no : NoAttr X.K C f) {n : Nat} (hl : n ≤ 100)
    (sw : swapsWith e (some (.Attribute (.Name y p) f p')) pos.line X.env = pure false) : Ho X (.Assign [.Attribute (.Name y p) f p'] e pos) (Fd σ0 H0 x C dx fs n) (Fd σ0 H0 x C dx (putF f v fs) (n + 1)) := by
  refine ⟨_, ps_fld hs he sw, ?_⟩
  rintro D σ H ⟨rfl, b, hx, hn⟩ q
  refine hv H _ ⟨_, hi, x, C, dx, fs, rfl, hx, cl, no, ?_, q _ _ ⟨rfl, b.trans But.upd, upd_same, Nat.le_trans (putF_len f v fs) (by omega)⟩⟩
  omega
end
end Ob
namespace Tx
open PySem PySem.Spec PyProof.Rows L2 Cm Ob
/-! ### Mount.__init__ -/
abbrev sMtI : Stmt := inClass sMountC 0
theorem scMtI : FnScope ["self", "number", "space", "tree", "root"] ["self", "number", "space", "tree", "root"] (defScope sMtI) := ⟨rfl, rfl, rfl, by decide +kernel, rfl, by decide +kernel, by decide +kernel⟩
/-- a class without those names -/
structure Cn (K : PySem.W.Frag) (C : Addr) (fs : List Str) : Prop where
  cl : Cls K C
  no : ∀ f ∈ fs, NoAttr K C f
def mtN : List Str := ["number", "space", "tree", "root", "parent", "place", "group", "follows", "marked", "locked", "stem"]
def mtF (n sp tr rt pa pl gr fo ma lo st : V) : List (Str × V) := [("number", n), ("space", sp), ("tree", tr), ("root", rt), ("parent", pa), ("place", pl), ("group", gr), ("follows", fo), ("marked", ma), ("locked", lo), ("stem", st)]
def spMtI (CM : Addr) : Sp := fun vs H Q _ => ∃ x dx n sp tr rt, vs = [.ref x, n, sp, tr, rt] ∧ H x = some (.ins CM dx []) ∧ ∀ H', But x H H' → H' x = some (.ins CM dx (mtF n sp tr rt .non .non .non .non (.bl false) (.bl false) .non)) → Q .non H'
section
variable {P : Program} {w : World} {K : PySem.W.Frag} {mg : Str → Option Value} {base : Heap}
theorem ok_mtI {f CM : Addr} {fd : FuncData} {k : Nat} (F : Fun K "__init__" "Mount.__init__" sMtI f fd) (c : Cn K CM mtN) : FnOk P w K mg base CX0 (k + 1) f fd ["self", "number", "space", "tree", "root"] (spMtI CM) := by
  refine F.ok scMtI (fun vs H Q E h => ?_) (fun cdv A outer s H vs Q E hr h => ?_)
  · obtain ⟨x, dx, n, sp, tr, rt, rfl, _⟩ := h
    rfl
  · obtain ⟨x, dx, n, sp, tr, rt, rfl, hx, q⟩ := h
    have N : ∀ f ∈ mtN, NoAttr K CM f := c.no
    obtain ⟨t, ht, hq⟩ : HoS (cxOf CX0 P w K mg base ["self", "number", "space", "tree", "root"] "Mount.__init__" (defScope sMtI) f cdv A outer s H E).nox (defBody sMtI) (Fd [some (.ref x), some n, some sp, some tr, some rt] H x CM dx [] 0) (Fd [some (.ref x), some n, some sp, some tr, some rt] H x CM dx (mtF n sp tr rt .non .non .non .non (.bl false) (.bl false) .non) 11) := by
      refine HoS.cons (ho_fld (i := 0) (v := n) (pv 0) rfl (pv 1) (fun H Q h => ⟨_, rfl, h⟩) c.cl (N _ (by decide +kernel)) (by decide) rfl) ?_
      refine HoS.cons (ho_fld (i := 0) (v := sp) (pv 0) rfl (pv 2) (fun H Q h => ⟨_, rfl, h⟩) c.cl (N _ (by decide +kernel)) (by decide) rfl) ?_
      refine HoS.cons (ho_fld (i := 0) (v := tr) (pv 0) rfl (pv 3) (fun H Q h => ⟨_, rfl, h⟩) c.cl (N _ (by decide +kernel)) (by decide) rfl) ?_
      refine HoS.cons (ho_fld (i := 0) (v := rt) (pv 0) rfl (pv 4) (fun H Q h => ⟨_, rfl, h⟩) c.cl (N _ (by decide +kernel)) (by decide) rfl) ?_
      refine HoS.cons (ho_fld (i := 0) (v := .non) (pv 0) rfl pe_non (fun H Q h => h) c.cl (N _ (by decide +kernel)) (by decide) rfl) ?_
      refine HoS.cons (ho_fld (i := 0) (v := .non) (pv 0) rfl pe_non (fun H Q h => h) c.cl (N _ (by decide +kernel)) (by decide) rfl) ?_
      refine HoS.cons (ho_fld (i := 0) (v := .non) (pv 0) rfl pe_non (fun H Q h => h) c.cl (N _ (by decide +kernel)) (by decide) rfl) ?_
      refine HoS.cons (ho_fld (i := 0) (v := .non) (pv 0) rfl pe_non (fun H Q h => h) c.cl (N _ (by decide +kernel)) (by decide) rfl) ?_
      refine HoS.cons (ho_fld (i := 0) (v := .bl false) (pv 0) rfl pe_bl (fun H Q h => h) c.cl (N _ (by decide +kernel)) (by decide) rfl) ?_
      refine HoS.cons (ho_fld (i := 0) (v := .bl false) (pv 0) rfl pe_bl (fun H Q h => h) c.cl (N _ (by decide +kernel)) (by decide) rfl) ?_
      refine HoS.cons (ho_fld (i := 0) (v := .non) (pv 0) rfl pe_non (fun H Q h => h) c.cl (N _ (by decide +kernel)) (by decide) rfl) ?_
      exact HoS.nil
    exact ⟨t, ht, hq _ _ _ ⟨rfl, But.refl _ _, hx, Nat.le_refl _⟩ fun σ' H' z => q H' z.2.1 z.2.2.1⟩
end
end Tx
set_option autoImplicit true
set_option Elab.async false
set_option linter.all false
set_option maxRecDepth 100000
set_option maxHeartbeats 4000000
namespace Ob
open PySem PySem.Spec PyProof.Rows L2 Cm
/-- the object x, with k new empty dicts among its fields -/
def Fe (σ0 : L2.St) (H0 : Hp) (x C dx : Addr) (n k : Nat) (P : List Addr → List (Str × V)) : L2.St → Hp → Prop := fun σ H => ∃ ds : List Addr, ds.length = k ∧ σ = σ0 ∧ But x H0 H ∧ H x = some (.ins C dx (P ds)) ∧ (P ds).length ≤ n ∧ (∀ d ∈ ds, H0 d = none ∧ d ≠ x ∧ H d = some (.dK [])) ∧ ds.Nodup
theorem But.none {x : Addr} {H0 H : Hp} {d : Addr} {o : HO} (b : But x H0 H) (hx : H x = some o) (hd : H d = none) : H0 d = none ∧ d ≠ x := by
  have ne : d ≠ x := fun z => by
    rw [z, hx] at hd
    cases hd
  refine ⟨?_, ne⟩
  cases e : H0 d with
  | none => rfl
  | some u =>
    rw [b d u ne e] at hd
    cases hd
section
variable {X : Cx} {σ0 : L2.St} {H0 : Hp} {x C dx : Addr} {f y : Str} {i n k : Nat} {p p' pos p2 : Pos} {P P' : List Addr → List (Str × V)}
/-- self.f = {} -/
theorem ho_dnew (hs : PE X (.Name y p) (tVar i)) (hi : σ0[i]? = some (some (.ref x))) (cl : Cls X.K C) (no : NoAttr X.K C f) (hl : n ≤ 100) (hP : ∀ ds d, ds.length = k → P' (ds ++ [d]) = putF f (.ref d) (P ds))
    (sw : swapsWith (.Dict [] [] p2) (some (.Attribute (.Name y p) f p')) pos.line X.env = pure false) : Ho X (.Assign [.Attribute (.Name y p) f p'] (.Dict [] [] p2) pos) (Fe σ0 H0 x C dx n k P) (Fe σ0 H0 x C dx (n + 1) (k + 1) P') := by
  refine ⟨_, ps_fld hs pe_dnewK sw, ?_⟩
  rintro D σ H ⟨ds, hk, rfl, b, hx, hn, hd, nd⟩ q d hd0
  have hz := But.none b hx hd0
  refine ⟨_, hi, x, C, dx, P ds, rfl, (by rw [upd_ne (ne_of_none hx hd0)]; exact hx), cl, no, by omega, q _ _ ⟨ds ++ [d], by rw [List.length_append, hk]; rfl, rfl, (b.trans (But.new hd0)).trans But.upd, ?_, ?_, fun a ha => ?_, ?_⟩⟩
  · rw [hP ds d hk]
    exact upd_same
  · rw [hP ds d hk]
    exact Nat.le_trans (putF_len _ _ _) (by omega)
  · rcases List.mem_append.mp ha with ha | ha
    · obtain ⟨h1, h2, h3⟩ := hd a ha
      exact ⟨h1, h2, by rw [upd_ne h2, upd_ne (ne_of_none h3 hd0)]; exact h3⟩
    · have e : a = d := by simpa using ha
      subst e
      exact ⟨hz.1, hz.2, by rw [upd_ne hz.2]; exact upd_same⟩
  · rw [List.nodup_append]
    refine ⟨nd, by simp, fun a ha c hc => ?_⟩
    have e : c = d := by simpa using hc
    subst e
    intro z
    have h3 := (hd a ha).2.2
    rw [z, hd0] at h3
    cases h3
end
end Ob
namespace Tx
open PySem PySem.Spec PyProof.Rows L2 Cm Ob
abbrev sTbI : Stmt := inClass sTableC 0
theorem scTbI : FnScope ["self", "trees", "most"] ["self", "trees", "most"] (defScope sTbI) := ⟨rfl, rfl, rfl, by decide +kernel, rfl, by decide +kernel, by decide +kernel⟩
def tbN : List Str := ["trees", "most", "known", "placed", "tops", "owners", "masters", "members", "behind", "counts"]
def tbF (tr mo kn_ pl_ to_ ow_ ma_ me_ be_ ct : V) : List (Str × V) := [("trees", tr), ("most", mo), ("known", kn_), ("placed", pl_), ("tops", to_), ("owners", ow_), ("masters", ma_), ("members", me_), ("behind", be_), ("counts", ct)]
def pT0 (tr mo : V) (ds : List Addr) : List (Str × V) := match ds with | [] => [("trees", tr), ("most", mo)] | _ => []
def pT1 (tr mo : V) (ds : List Addr) : List (Str × V) := match ds with | [d0] => [("trees", tr), ("most", mo), ("known", .ref d0)] | _ => []
def pT2 (tr mo : V) (ds : List Addr) : List (Str × V) := match ds with | [d0, d1] => [("trees", tr), ("most", mo), ("known", .ref d0), ("placed", .ref d1)] | _ => []
def pT3 (tr mo : V) (ds : List Addr) : List (Str × V) := match ds with | [d0, d1, d2] => [("trees", tr), ("most", mo), ("known", .ref d0), ("placed", .ref d1), ("tops", .ref d2)] | _ => []
def pT4 (tr mo : V) (ds : List Addr) : List (Str × V) := match ds with | [d0, d1, d2, d3] => [("trees", tr), ("most", mo), ("known", .ref d0), ("placed", .ref d1), ("tops", .ref d2), ("owners", .ref d3)] | _ => []
def pT5 (tr mo : V) (ds : List Addr) : List (Str × V) := match ds with | [d0, d1, d2, d3, d4] => [("trees", tr), ("most", mo), ("known", .ref d0), ("placed", .ref d1), ("tops", .ref d2), ("owners", .ref d3), ("masters", .ref d4)] | _ => []
def pT6 (tr mo : V) (ds : List Addr) : List (Str × V) := match ds with | [d0, d1, d2, d3, d4, d5] => [("trees", tr), ("most", mo), ("known", .ref d0), ("placed", .ref d1), ("tops", .ref d2), ("owners", .ref d3), ("masters", .ref d4), ("members", .ref d5)] | _ => []
def pT7 (tr mo : V) (ds : List Addr) : List (Str × V) := match ds with | [d0, d1, d2, d3, d4, d5, d6] => [("trees", tr), ("most", mo), ("known", .ref d0), ("placed", .ref d1), ("tops", .ref d2), ("owners", .ref d3), ("masters", .ref d4), ("members", .ref d5), ("behind", .ref d6)] | _ => []
theorem pT0_put {tr mo : V} (ds : List Addr) (d : Addr) (h : ds.length = 0) : pT1 tr mo (ds ++ [d]) = putF "known" (.ref d) (pT0 tr mo ds) := match ds, h with | [], _ => rfl
theorem pT1_put {tr mo : V} (ds : List Addr) (d : Addr) (h : ds.length = 1) : pT2 tr mo (ds ++ [d]) = putF "placed" (.ref d) (pT1 tr mo ds) := match ds, h with | [_], _ => rfl
theorem pT2_put {tr mo : V} (ds : List Addr) (d : Addr) (h : ds.length = 2) : pT3 tr mo (ds ++ [d]) = putF "tops" (.ref d) (pT2 tr mo ds) := match ds, h with | [_, _], _ => rfl
theorem pT3_put {tr mo : V} (ds : List Addr) (d : Addr) (h : ds.length = 3) : pT4 tr mo (ds ++ [d]) = putF "owners" (.ref d) (pT3 tr mo ds) := match ds, h with | [_, _, _], _ => rfl
theorem pT4_put {tr mo : V} (ds : List Addr) (d : Addr) (h : ds.length = 4) : pT5 tr mo (ds ++ [d]) = putF "masters" (.ref d) (pT4 tr mo ds) := match ds, h with | [_, _, _, _], _ => rfl
theorem pT5_put {tr mo : V} (ds : List Addr) (d : Addr) (h : ds.length = 5) : pT6 tr mo (ds ++ [d]) = putF "members" (.ref d) (pT5 tr mo ds) := match ds, h with | [_, _, _, _, _], _ => rfl
theorem pT6_put {tr mo : V} (ds : List Addr) (d : Addr) (h : ds.length = 6) : pT7 tr mo (ds ++ [d]) = putF "behind" (.ref d) (pT6 tr mo ds) := match ds, h with | [_, _, _, _, _, _], _ => rfl
def cntK (a b c : Int) : List (Key × V) := [(Sum.inr "mount", .int a), (Sum.inr "group", .int b), (Sum.inr "stem", .int c)]
def spTbI (CT : Addr) : Sp := fun vs H Q _ => ∃ x dx tr mo, vs = [.ref x, tr, mo] ∧ H x = some (.ins CT dx []) ∧ ∀ H' ds ct, ds.length = 7 → But x H H' → H' x = some (.ins CT dx (pT7 tr mo ds ++ ([("counts", V.ref ct)] : List (Str × V)))) → (∀ d ∈ ds, H d = none ∧ d ≠ x ∧ H' d = some (.dK [])) → ds.Nodup → ct ∉ ds → H ct = none → ct ≠ x → H' ct = some (.dK (cntK 0 0 0)) → Q .non H'
section
variable {P : Program} {w : World} {K : PySem.W.Frag} {mg : Str → Option Value} {base : Heap}
theorem ok_tbI {f CT : Addr} {fd : FuncData} {k : Nat} (F : Fun K "__init__" "Table.__init__" sTbI f fd) (c : Cn K CT tbN) : FnOk P w K mg base CX0 (k + 1) f fd ["self", "trees", "most"] (spTbI CT) := by
  refine F.ok scTbI (fun vs H Q E h => ?_) (fun cdv A outer s H vs Q E hr h => ?_)
  · obtain ⟨x, dx, tr, mo, rfl, _⟩ := h
    rfl
  · obtain ⟨x, dx, tr, mo, rfl, hx, q⟩ := h
    have N : ∀ f ∈ tbN, NoAttr K CT f := c.no
    have last : Ho (cxOf CX0 P w K mg base ["self", "trees", "most"] "Table.__init__" (defScope sTbI) f cdv A outer s H E).nox ((defBody sTbI).getD 9 (.Pass ⟨0, 0, 0, 0⟩)) (Fe [some (.ref x), some tr, some mo] H x CT dx 9 7 (pT7 tr mo)) (fun _ H' => Q .non H') := by
      refine ⟨_, ps_fld (pv 0) (pe_disp (pps_cons pe_str pe_int (pps_cons pe_str pe_int (pps_cons pe_str pe_int pps_nil))) rfl rfl (by simp) (by decide)) rfl, ?_⟩
      rintro D σ H1 ⟨ds, hk, rfl, b, hx1, hn, hd, nd⟩ k ct hct
      refine ⟨upd_same, [(Sum.inr "mount", .int 0), (Sum.inr "group", .int 0), (Sum.inr "stem", .int 0)], rfl, by show 3 ≤ 15; decide, ?_⟩
      have hz := But.none b hx1 hct
      have b1 : But x H1 (upd (upd H1 ct (.dK [])) ct (.dK (cntK 0 0 0))) := fun a o n h => by
        rw [upd_ne (ne_of_none h hct), upd_ne (ne_of_none h hct)]
        exact h
      refine ⟨_, rfl, x, CT, dx, pT7 tr mo ds, rfl, ?_, c.cl, N _ (by decide +kernel), by omega, k _ _ ?_⟩
      · show upd (upd H1 ct (.dK [])) ct _ x = _
        rw [upd_ne (ne_of_none hx1 hct), upd_ne (ne_of_none hx1 hct)]
        exact hx1
      · refine q _ ds ct hk (b.trans (b1.trans But.upd)) ?_ (fun d hd' => ?_) nd (fun z => ?_) hz.1 hz.2 ?_
        · rw [upd_same]
          match ds, hk with
          | [_, _, _, _, _, _, _], _ => rfl
        · obtain ⟨h1, h2, h3⟩ := hd d hd'
          exact ⟨h1, h2, (b1.trans But.upd) d _ h2 h3⟩
        · have h3 := (hd ct z).2.2
          rw [hct] at h3
          cases h3
        · rw [upd_ne hz.2]
          exact upd_same
    obtain ⟨t, ht, hq⟩ : HoS (cxOf CX0 P w K mg base ["self", "trees", "most"] "Table.__init__" (defScope sTbI) f cdv A outer s H E).nox (defBody sTbI) (Fd [some (.ref x), some tr, some mo] H x CT dx [] 0) (fun _ H' => Q .non H') := by
      refine HoS.cons (ho_fld (i := 0) (v := tr) (pv 0) rfl (pv 1) (fun H Q h => ⟨_, rfl, h⟩) c.cl (N _ (by decide +kernel)) (by decide) rfl) ?_
      refine HoS.cons (ho_fld (i := 0) (v := mo) (pv 0) rfl (pv 2) (fun H Q h => ⟨_, rfl, h⟩) c.cl (N _ (by decide +kernel)) (by decide) rfl) ?_
      refine HoS.conseq (p := Fe [some (.ref x), some tr, some mo] H x CT dx 2 0 (pT0 tr mo)) (q := fun _ H' => Q .non H') ?_ (fun σ H1 z => ⟨[], rfl, z.1, z.2.1, z.2.2.1, z.2.2.2, by simp, by simp⟩) (fun _ _ z => z)
      refine HoS.cons (ho_dnew (i := 0) (k := 0) (pv 0) rfl c.cl (N _ (by decide +kernel)) (by decide) (pT0_put) rfl) ?_
      refine HoS.cons (ho_dnew (i := 0) (k := 1) (pv 0) rfl c.cl (N _ (by decide +kernel)) (by decide) (pT1_put) rfl) ?_
      refine HoS.cons (ho_dnew (i := 0) (k := 2) (pv 0) rfl c.cl (N _ (by decide +kernel)) (by decide) (pT2_put) rfl) ?_
      refine HoS.cons (ho_dnew (i := 0) (k := 3) (pv 0) rfl c.cl (N _ (by decide +kernel)) (by decide) (pT3_put) rfl) ?_
      refine HoS.cons (ho_dnew (i := 0) (k := 4) (pv 0) rfl c.cl (N _ (by decide +kernel)) (by decide) (pT4_put) rfl) ?_
      refine HoS.cons (ho_dnew (i := 0) (k := 5) (pv 0) rfl c.cl (N _ (by decide +kernel)) (by decide) (pT5_put) rfl) ?_
      refine HoS.cons (ho_dnew (i := 0) (k := 6) (pv 0) rfl c.cl (N _ (by decide +kernel)) (by decide) (pT6_put) rfl) ?_
      exact HoS.cons last HoS.nil
    exact ⟨t, ht, hq _ _ _ ⟨rfl, But.refl _ _, hx, Nat.le_refl _⟩ fun σ' H' z => z⟩
end
end Tx
set_option autoImplicit true
set_option Elab.async false
set_option linter.all false
set_option maxRecDepth 100000
set_option maxHeartbeats 4000000
/-! the table as it lies in memory: roles, what stands at each, one object changed, one object more -/
namespace Rp
open PySem PySem.Spec PyProof.Rows L2 Cm Ob Tx
/-! ### dicts with whole numbers as keys -/
def fu {α : Type} (f : Int → α) (n : Int) (v : α) : Int → α := fun k => if k = n then v else f k
theorem fu_same {α : Type} {f : Int → α} {n : Int} {v : α} : fu f n v n = v := if_pos rfl
theorem fu_ne {α : Type} {f : Int → α} {n k : Int} {v : α} (h : k ≠ n) : fu f n v k = f k := if_neg h
theorem fu_map {α β : Type} {F : α → β} {f : Int → α} {n : Int} {v : α} : fu (fun k => F (f k)) n (F v) = fun k => F (fu f n v k) := funext fun k => by
  unfold fu
  split <;> rfl
theorem fu_id {α : Type} {f : Int → α} {n : Int} : fu f n (f n) = f := funext fun k => by
  unfold fu
  split
  · rename_i e
    rw [e]
  · rfl
def dk (l : List Int) (f : Int → V) : List (Key × V) := l.map fun n => (Sum.inl n, f n)
theorem dk_len (l : List Int) (f : Int → V) : (dk l f).length = l.length := List.length_map _
theorem dk_cong {l : List Int} {f g : Int → V} (h : ∀ n ∈ l, f n = g n) : dk l f = dk l g := List.map_congr_left fun n hn => by rw [h n hn]
theorem any_dk (l : List Int) (f : Int → V) (n : Int) : ((dk l f).any fun kv => decide (kv.1 = (Sum.inl n : Key))) = decide (n ∈ l) := by
  induction l with
  | nil => rfl
  | cons a r ih =>
    show (decide ((Sum.inl a : Key) = Sum.inl n) || (dk r f).any _) = _
    rw [ih]
    by_cases e : a = n
    · subst e
      simp
    · have e2 : ¬ (Sum.inl a : Key) = Sum.inl n := fun z => e (Sum.inl.inj z)
      rw [decide_eq_false e2, Bool.false_or]
      have e3 : n ≠ a := fun z => e z.symm
      simp [e3]
theorem val_dk {l : List Int} {f : Int → V} {n : Int} (h : n ∈ l) : valV (dk l f) (Sum.inl n : Key) = some (f n) := by
  induction l with
  | nil => cases h
  | cons a r ih =>
    by_cases e : a = n
    · subst e
      exact valV_pos rfl
    · rw [show dk (a :: r) f = (Sum.inl a, f a) :: dk r f from rfl, valV_neg (fun z => e (Sum.inl.inj z))]
      exact ih ((List.mem_cons.mp h).resolve_left fun z => e z.symm)
theorem val_dk_no {l : List Int} {f : Int → V} {n : Int} (h : n ∉ l) : valV (dk l f) (Sum.inl n : Key) = none := by
  induction l with
  | nil => rfl
  | cons a r ih =>
    rw [show dk (a :: r) f = (Sum.inl a, f a) :: dk r f from rfl, valV_neg (fun z => h (by rw [Sum.inl.inj z]; exact List.mem_cons_self))]
    exact ih fun z => h (List.mem_cons_of_mem _ z)
theorem put_dk {l : List Int} {f : Int → V} {n : Int} {v : V} (h : n ∈ l) : putK (dk l f) (Sum.inl n : Key) v = dk l (fu f n v) := by
  unfold putK
  rw [any_dk, decide_eq_true h, if_pos rfl]
  unfold dk
  rw [List.map_map]
  refine List.map_congr_left fun k _ => ?_
  show (if (Sum.inl k : Key) = Sum.inl n then ((Sum.inl k : Key), v) else (Sum.inl k, f k)) = (Sum.inl k, fu f n v k)
  by_cases e : k = n
  · subst e
    rw [if_pos rfl, fu_same]
  · rw [if_neg (fun z => e (Sum.inl.inj z)), fu_ne e]
theorem put_dk_new {l : List Int} {f : Int → V} {n : Int} {v : V} (h : n ∉ l) : putK (dk l f) (Sum.inl n : Key) v = dk (l ++ [n]) (fu f n v) := by
  unfold putK
  rw [any_dk, decide_eq_false h, if_neg (by simp)]
  show dk l f ++ [(Sum.inl n, v)] = dk (l ++ [n]) (fu f n v)
  have e : dk (l ++ [n]) (fu f n v) = dk l (fu f n v) ++ [(Sum.inl n, v)] := by
    unfold dk
    rw [List.map_append, List.map_singleton, fu_same]
  rw [e]
  refine congrArg (· ++ [((Sum.inl n : Key), v)]) (dk_cong fun k hk => ?_)
  rw [fu_ne (fun z => h (by rw [← z]; exact hk))]
def del (l : List Int) (n : Int) : List Int := l.filter fun k => decide (k ≠ n)
theorem mem_del {l : List Int} {n k : Int} : k ∈ del l n ↔ k ∈ l ∧ k ≠ n := by
  unfold del
  rw [List.mem_filter, decide_eq_true_eq]
theorem drop_dk (l : List Int) (f : Int → V) (n : Int) : dropK (dk l f) (Sum.inl n : Key) = dk (del l n) f := by
  unfold dropK dk del
  induction l with
  | nil => rfl
  | cons a r ih =>
    rw [List.map_cons, List.filter_cons, List.filter_cons, ih]
    by_cases e : a = n
    · subst e
      simp
    · have e1 : (Sum.inl a : Key) ≠ Sum.inl n := fun z => e (Sum.inl.inj z)
      rw [if_pos (decide_eq_true e1), if_pos (decide_eq_true e), List.map_cons]
/-! ### the table -/
inductive Role where
  | tab | kn | pl | tp | ow | ms | mb | bh | ct
  | mt (n : Int) | pc (n : Int) | me (g : Int) | be (g : Int)
deriving DecidableEq
/-- a mount: all but its number -/
structure Mn where
  sp : Int
  tr : Str
  rv : V
  pa : Option Int
  pv : V
  gr : Option Int
  fo : Option Int
  ma : Bool
  lo : Bool
  st : V
structure Tb where
  tr : V
  most : Int
  kn : List Int
  mn : Int → Mn
  kp : List Int
  pc : Int → List (List Key × V)
  ts : List Int
  tp : Int → Int
  os : List Int
  ow : Int → Int
  gm : List Int
  ms : Int → Option Int
  gb : List Int
  me : Int → List Int
  gh : List Int
  be : Int → List Int
  cm : Int
  cg : Int
  cs : Int
structure Ad where
  a : Role → Addr
  dT : Addr
  dm : Int → Addr
def oi : Option Int → V
  | none => .non
  | some i => .int i
theorem oi_inj {a b : Option Int} (h : oi a = oi b) : a = b := by
  cases a with
  | none => cases b with
    | none => rfl
    | some j => cases h
  | some i => cases b with
    | none => cases h
    | some j =>
      have : i = j := V.int.inj h
      rw [this]
def live (t : Tb) : Role → Prop
  | .mt n => n ∈ t.kn
  | .pc n => n ∈ t.kp
  | .me g => g ∈ t.gb
  | .be g => g ∈ t.gh
  | _ => True
def mnF (n : Int) (m : Mn) : List (Str × V) := mtF (.int n) (.int m.sp) (.str m.tr) m.rv (oi m.pa) m.pv (oi m.gr) (oi m.fo) (.bl m.ma) (.bl m.lo) m.st
def set1 (l : List Int) : HO := .dK (dk l fun _ => .bl true)
def cnt (a b c : Int) : List (Key × V) := [(Sum.inr "mount", .int a), (Sum.inr "group", .int b), (Sum.inr "stem", .int c)]
def ob (CT CM : Addr) (d : Ad) (t : Tb) : Role → HO
  | .tab => .ins CT d.dT [("trees", t.tr), ("most", .int t.most), ("known", .ref (d.a .kn)), ("placed", .ref (d.a .pl)), ("tops", .ref (d.a .tp)), ("owners", .ref (d.a .ow)), ("masters", .ref (d.a .ms)), ("members", .ref (d.a .mb)), ("behind", .ref (d.a .bh)), ("counts", .ref (d.a .ct))]
  | .kn => .dK (dk t.kn fun n => .ref (d.a (.mt n)))
  | .pl => .dK (dk t.kp fun n => .ref (d.a (.pc n)))
  | .tp => .dK (dk t.ts fun n => .int (t.tp n))
  | .ow => .dK (dk t.os fun n => .int (t.ow n))
  | .ms => .dK (dk t.gm fun g => oi (t.ms g))
  | .mb => .dK (dk t.gb fun g => .ref (d.a (.me g)))
  | .bh => .dK (dk t.gh fun g => .ref (d.a (.be g)))
  | .ct => .dK (cnt t.cm t.cg t.cs)
  | .mt n => .ins CM (d.dm n) (mnF n (t.mn n))
  | .pc n => .dT (t.pc n)
  | .me g => set1 (t.me g)
  | .be g => set1 (t.be g)
structure TabAt (CT CM : Addr) (H : Hp) (d : Ad) (t : Tb) : Prop where
  all : ∀ r, live t r → H (d.a r) = some (ob CT CM d t r)
  inj : ∀ r r', live t r → live t r' → d.a r = d.a r' → r = r'
/-- not of the table -/
def Out (d : Ad) (t : Tb) (b : Addr) : Prop := ∀ r, live t r → b ≠ d.a r
/-- all else stays, and stays outside -/
def Fr (H : Hp) (d : Ad) (t : Tb) (H' : Hp) (d' : Ad) (t' : Tb) : Prop := ∀ b o, H b = some o → Out d t b → H' b = some o ∧ Out d' t' b
theorem Fr.refl (H : Hp) (d : Ad) (t : Tb) : Fr H d t H d t := fun _ _ h o => ⟨h, o⟩
theorem Fr.trans {H H1 H2 : Hp} {d d1 d2 : Ad} {t t1 t2 : Tb} (a : Fr H d t H1 d1 t1) (b : Fr H1 d1 t1 H2 d2 t2) : Fr H d t H2 d2 t2 := fun c o h q => let ⟨h1, q1⟩ := a c o h q; b c o h1 q1
section
variable {CT CM : Addr} {H H' : Hp} {d d' : Ad} {t t' : Tb}
theorem TabAt.same (h : TabAt CT CM H d t) (s : Same H H') : TabAt CT CM H' d t := ⟨fun r l => s _ _ (h.all r l), h.inj⟩
theorem Fr.same (h : TabAt CT CM H d t) (s : Same H H') : Fr H d t H' d t := fun b o hb q => ⟨s b o hb, q⟩
/-- what is new is outside -/
theorem TabAt.out (h : TabAt CT CM H d t) {p : Addr} (hp : H p = none) : Out d t p := fun r l z => by
  have := h.all r l
  rw [← z, hp] at this
  cases this
/-- one object of the table changed -/
theorem TabAt.mut {r0 : Role} (h : TabAt CT CM H d t) (hl : ∀ r, live t' r ↔ live t r) (l0 : live t r0) (b : But (d.a r0) H H') (h0 : H' (d.a r0) = some (ob CT CM d t' r0)) (hs : ∀ r, live t r → r ≠ r0 → ob CT CM d t' r = ob CT CM d t r) : TabAt CT CM H' d t' ∧ Fr H d t H' d t' := by
  refine ⟨⟨fun r l => ?_, fun r r' l l' e => h.inj r r' ((hl r).mp l) ((hl r').mp l') e⟩, fun c o hc q => ⟨b c o (q r0 l0) hc, fun r l => q r ((hl r).mp l)⟩⟩
  by_cases e : r = r0
  · rw [e]
    exact h0
  · rw [hs r ((hl r).mp l) e]
    exact b _ _ (fun z => e (h.inj r r0 ((hl r).mp l) l0 z)) (h.all r ((hl r).mp l))
/-- .. and objects that are no longer of it -/
theorem TabAt.mut2 {r0 : Role} (h : TabAt CT CM H d t) (hl : ∀ r, live t' r → live t r) (l0 : live t r0) (b : But (d.a r0) H H') (h0 : H' (d.a r0) = some (ob CT CM d t' r0)) (hs : ∀ r, live t' r → r ≠ r0 → ob CT CM d t' r = ob CT CM d t r) : TabAt CT CM H' d t' ∧ Fr H d t H' d t' := by
  refine ⟨⟨fun r l => ?_, fun r r' l l' e => h.inj r r' (hl r l) (hl r' l') e⟩, fun c o hc q => ⟨b c o (q r0 l0) hc, fun r l => q r (hl r l)⟩⟩
  by_cases e : r = r0
  · rw [e]
    exact h0
  · rw [hs r l e]
    exact b _ _ (fun z => e (h.inj r r0 (hl r l) l0 z)) (h.all r (hl r l))
/-- the address of a new object -/
def Ad.put (d : Ad) (r : Role) (p : Addr) : Ad := { d with a := fun x => if x = r then p else d.a x }
theorem Ad.put_same {d : Ad} {r : Role} {p : Addr} : (d.put r p).a r = p := if_pos rfl
theorem Ad.put_ne {d : Ad} {r x : Role} {p : Addr} (h : x ≠ r) : (d.put r p).a x = d.a x := if_neg h
/-- one object more, and one changed -/
theorem TabAt.add {r0 r1 : Role} {p : Addr} (h : TabAt CT CM H d t) (np : H p = none) (hl : ∀ r, live t' r ↔ live t r ∨ r = r1) (n1 : ¬ live t r1) (l0 : live t r0) (h1 : H' p = some (ob CT CM (d.put r1 p) t' r1)) (h0 : H' (d.a r0) = some (ob CT CM (d.put r1 p) t' r0)) (b : But (d.a r0) H H') (hs : ∀ r, live t r → r ≠ r0 → ob CT CM (d.put r1 p) t' r = ob CT CM d t r) : TabAt CT CM H' (d.put r1 p) t' ∧ Fr H d t H' (d.put r1 p) t' := by
  have ne1 : ∀ r, live t r → r ≠ r1 := fun r l e => n1 (by rw [← e]; exact l)
  have np' : ∀ r, live t r → p ≠ d.a r := fun r l => h.out np r l
  refine ⟨⟨fun r l => ?_, fun r r' l l' e => ?_⟩, fun c o hc q => ⟨b c o (q r0 l0) hc, fun r l z => ?_⟩⟩
  · rcases (hl r).mp l with l | e
    · rw [Ad.put_ne (ne1 r l)]
      by_cases e : r = r0
      · rw [e]
        exact h0
      · rw [hs r l e]
        exact b _ _ (fun z => e (h.inj r r0 l l0 z)) (h.all r l)
    · rw [e, Ad.put_same]
      exact h1
  · rcases (hl r).mp l with l | e1
    · rcases (hl r').mp l' with l' | e2
      · rw [Ad.put_ne (ne1 r l), Ad.put_ne (ne1 r' l')] at e
        exact h.inj r r' l l' e
      · rw [e2, Ad.put_same, Ad.put_ne (ne1 r l)] at e
        exact absurd e.symm (np' r l)
    · rcases (hl r').mp l' with l' | e2
      · rw [e1, Ad.put_same, Ad.put_ne (ne1 r' l')] at e
        exact absurd e (np' r' l')
      · rw [e1, e2]
  · rcases (hl r).mp l with l | e
    · rw [Ad.put_ne (ne1 r l)] at z
      exact q r l z
    · rw [e, Ad.put_same] at z
      rw [z, np] at hc
      cases hc
/-- nothing of the table is changed -/
theorem TabAt.fr (h : TabAt CT CM H d t) (s : Same H H') : TabAt CT CM H' d t ∧ Fr H d t H' d t := ⟨h.same s, Fr.same h s⟩
end
theorem sz5 {n : Nat} (h : n ≤ 100000) : n < sizeLine := by
  rw [sizeLine_eq]
  omega
end Rp
set_option autoImplicit true
set_option Elab.async false
set_option linter.all false
set_option maxRecDepth 100000
set_option maxHeartbeats 4000000
namespace Tx
open PySem PySem.Spec PyProof.Rows L2 Cm Ob
abbrev sNext : Stmt := inClass sTableC 2
abbrev sNewM : Stmt := inClass sTableC 6
theorem scNext : FnScope ["self", "what", "found"] ["self", "what"] (defScope sNext) := ⟨rfl, rfl, rfl, by decide +kernel, rfl, by decide +kernel, by decide +kernel⟩
theorem scNewM : FnScope ["self", "space", "tree", "root", "found"] ["self", "space", "tree", "root"] (defScope sNewM) := ⟨rfl, rfl, rfl, by decide +kernel, rfl, by decide +kernel, by decide +kernel⟩
def spNext (CT : Addr) : Sp := fun vs H Q _ => ∃ T dx fs c kvs z n, vs = [.ref T, .str z] ∧ H T = some (.ins CT dx fs) ∧ fs.lookup ("counts" : Str) = some (.ref c) ∧ H c = some (.dK kvs) ∧ valV kvs (Sum.inr z : Key) = some (.int n) ∧ kvs.length ≤ 100 ∧
  ∀ H', But c H H' → H' c = some (.dK (putK kvs (Sum.inr z : Key) (.int (n + 1)))) → Q (.int n) H'
section
variable {P : Program} {w : World} {K : PySem.W.Frag} {mg : Str → Option Value} {base : Heap}
theorem ok_next {f CT : Addr} {fd : FuncData} {k : Nat} (F : Fun K "next" "Table.next" sNext f fd) (c : Cn K CT tbN) : FnOk P w K mg base CX0 (k + 1) f fd ["self", "what"] (spNext CT) := by
  refine F.ok scNext (fun vs H Q E h => ?_) (fun cdv A outer s H vs Q E hr h => ?_)
  · obtain ⟨T, dx, fs, c, kvs, z, n, rfl, _⟩ := h
    rfl
  · obtain ⟨T, dx, fs, cc, kvs, z, n, rfl, hT, hl, hc, hv, hn, q⟩ := h
    have hu1 : (cxOf CX0 P w K mg base ["self", "what", "found"] "Table.next" (defScope sNext) f cdv A outer s H E).nox.A.units + 1 < cLine := by
      have := hr.units
      exact Nat.lt_of_le_of_lt (Nat.add_le_add_left (by decide) _) this
    have no := c.no "counts" (by decide +kernel)
    refine ⟨_, pss_cons (ps_set (i := 2) scNext.nd rfl (.inl rfl) (pe_dget hu1 (pe_fld (pv 0) rfl) (pv 1) (fun _ _ => rfl))) (pss_cons (ps_dput hu1 (pe_fld (pv 0) rfl) (pv 1) (pe_op op_add (pv 2) pe_int) rfl) (pss_one (ps_ret (pv 2)))), ?_⟩
    refine ⟨_, rfl, T, CT, dx, fs, .ref cc, rfl, hT, c.cl, no, hl, _, rfl, cc, .int n, rfl, ?_, ?_⟩
    · rw [← hv]
      exact DGet.k (k := (Sum.inr z : Key)) hc
    · exact ⟨_, rfl, n, 1, rfl, rfl, _, rfl, T, CT, dx, fs, .ref cc, rfl, hT, c.cl, no, hl, _, rfl, cc, _, rfl, DPut.k (k := (Sum.inr z : Key)) hc (small1000 (by omega)), _, rfl, q _ But.upd upd_same⟩
/-- all but three -/
def But3 (a b c : Addr) (H H' : Hp) : Prop := ∀ d o, d ≠ a → d ≠ b → d ≠ c → H d = some o → H' d = some o
def spNewM (CT CM : Addr) : Sp := fun vs H Q _ => ∃ T dx fs c kn pl kvs kk kp n sp tr rt, vs = [.ref T, sp, tr, rt] ∧ H T = some (.ins CT dx fs) ∧ fs.lookup ("counts" : Str) = some (.ref c) ∧ fs.lookup ("known" : Str) = some (.ref kn) ∧ fs.lookup ("placed" : Str) = some (.ref pl) ∧ fs.lookup ("next" : Str) = none ∧
  H c = some (.dK kvs) ∧ valV kvs (Sum.inr "mount" : Key) = some (.int n) ∧ kvs.length ≤ 100 ∧ H kn = some (.dK kk) ∧ kk.length ≤ 10000 ∧ H pl = some (.dK kp) ∧ kp.length ≤ 10000 ∧ c ≠ kn ∧ c ≠ pl ∧ kn ≠ pl ∧
  ∀ H' m dm e, But3 c kn pl H H' → H m = none → H e = none → H' m = some (.ins CM dm (mtF (.int n) sp tr rt .non .non .non .non (.bl false) (.bl false) .non)) → H' e = some (.dK []) → H' c = some (.dK (putK kvs (Sum.inr "mount" : Key) (.int (n + 1)))) →
    H' kn = some (.dK (putK kk (Sum.inl n : Key) (.ref m))) → H' pl = some (.dK (putK kp (Sum.inl n : Key) (.ref e))) → m ≠ e → Q (.ref m) H'
theorem ok_newM {f CT CM fN fI : Addr} {fd fdN fdI : FuncData} {k : Nat} (F : Fun K "new_mount" "Table.new_mount" sNewM f fd) (c : Cn K CT tbN) (cM : Cn K CM mtN) (mN : Meth K CT "next" fN) (FN : FnOk P w K mg base CX0 1 fN fdN ["self", "what"] (spNext CT)) (bN : Binds K fdN ["self", "what"] [])
    (MK : Mk K CM fI) (gM : mg "Mount" = some (.ref CM)) (FI : FnOk P w K mg base CX0 1 fI fdI ["self", "number", "space", "tree", "root"] (spMtI CM)) (bI : Binds K fdI ["self", "number", "space", "tree", "root"] []) :
    FnOk P w K mg base CX0 (k + 3) f fd ["self", "space", "tree", "root"] (spNewM CT CM) := by
  refine F.ok scNewM (fun vs H Q E h => ?_) (fun cdv A outer s H vs Q E hr h => ?_)
  · obtain ⟨T, dx, fs, cc, kn, pl, kvs, kk, kp, n, sp, tr, rt, rfl, _⟩ := h
    rfl
  · obtain ⟨T, dx, fs, cc, kn, pl, kvs, kk, kp, n, sp, tr, rt, rfl, hT, lc, lk, lp, ln, hc, hv, hn, hk, hkl, hp, hpl, n1, n2, n3, q⟩ := h
    have hu1 : (cxOf CX0 P w K mg base ["self", "space", "tree", "root", "found"] "Table.new_mount" (defScope sNewM) f cdv A outer s H E).nox.A.units + 1 < cLine := by
      have := hr.units
      exact Nat.lt_of_le_of_lt (Nat.add_le_add_left (by decide) _) this
    have hr1 : Room 1 (cxOf CX0 P w K mg base ["self", "space", "tree", "root", "found"] "Table.new_mount" (defScope sNewM) f cdv A outer s H E).nox.A := hr.mono (by omega)
    have hr2 : Room 2 (cxOf CX0 P w K mg base ["self", "space", "tree", "root", "found"] "Table.new_mount" (defScope sNewM) f cdv A outer s H E).nox.A := hr.mono (by omega)
    refine ⟨_, pss_cons (ps_set (i := 4) scNewM.nd rfl (.inl rfl) (pe_make MK FI hr2 (by rfl) gM bI .nil pass0 (pa_cons (pe_meth (pv 0) c.cl mN FN hr1 bN .nil pass0 (pa_cons pe_str pa_nil)) (pa_cons (pv 1) (pa_cons (pv 2) (pa_cons (pv 3) pa_nil))))))
      (pss_cons (ps_dput hu1 (pe_fld (pv 0) rfl) (pe_fld (pv 4) rfl) (pv 4) rfl) (pss_cons (ps_dput hu1 (pe_fld (pv 0) rfl) (pe_fld (pv 4) rfl) pe_dnewK rfl) (pss_one (ps_ret (pv 4))))), ?_⟩
    refine ⟨_, rfl, T, dx, fs, rfl, hT, ln, T, dx, fs, cc, kvs, "mount", n, rfl, hT, lc, hc, hv, hn, fun H1 b1 hc1 => ?_⟩
    refine ⟨_, rfl, _, rfl, _, rfl, fun m dm hm hdm ne => ?_⟩
    refine ⟨m, dm, .int n, sp, tr, rt, rfl, upd_same, fun H2 b2 hm2 => ⟨rfl, ?_⟩⟩
    -- H1: counts moved on; H2: the mount made
    have hne : ∀ {b o}, H1 b = some o → b ≠ m ∧ b ≠ dm := fun {b o} h => ⟨ne_of_none h hm, ne_of_none h hdm⟩
    have up2 : ∀ b o, H1 b = some o → H2 b = some o := fun b o h => by
      refine b2 b o (hne h).1 ?_
      rw [upd_ne (hne h).1, upd_ne (hne h).2]
      exact h
    have nTc : T ≠ cc := ne_of hT hc (by intro z; cases z)
    have hT1 := b1 T _ nTc hT
    have hk1 := b1 kn _ (Ne.symm n1) hk
    have hp1 := b1 pl _ (Ne.symm n2) hp
    have hm0 : H m = none := by
      cases e : H m with
      | none => rfl
      | some o =>
        by_cases z : m = cc
        · rw [z, hc1] at hm
          cases hm
        · rw [b1 m o z e] at hm
          cases hm
    have nmk : m ≠ kn := Ne.symm (hne hk1).1
    have nmp : m ≠ pl := Ne.symm (hne hp1).1
    have nmc : m ≠ cc := Ne.symm (hne hc1).1
    have nTk : T ≠ kn := ne_of hT hk (by intro z; cases z)
    have nTp : T ≠ pl := ne_of hT hp (by intro z; cases z)
    have lm : (mtF (.int n) sp tr rt .non .non .non .non (.bl false) (.bl false) .non).lookup ("number" : Str) = some (.int n) := rfl
    refine ⟨_, rfl, _, rfl, T, CT, dx, fs, .ref kn, rfl, up2 _ _ hT1, c.cl, c.no _ (by decide +kernel), lk, _, rfl, m, CM, dm, _, .int n, rfl, hm2, cM.cl, cM.no _ (by decide +kernel), lm, kn, _, rfl, DPut.k (k := (Sum.inl n : Key)) (up2 _ _ hk1) (Nat.lt_of_le_of_lt hkl (by decide)), ?_⟩
    intro e he
    have hT3 : upd H2 kn (.dK (putK kk (Sum.inl n : Key) (.ref m))) T = some (.ins CT dx fs) := by
      rw [upd_ne nTk]
      exact up2 _ _ hT1
    have hm3 : upd H2 kn (.dK (putK kk (Sum.inl n : Key) (.ref m))) m = some (.ins CM dm (mtF (.int n) sp tr rt .non .non .non .non (.bl false) (.bl false) .non)) := by
      rw [upd_ne nmk]
      exact hm2
    have hp3 : upd H2 kn (.dK (putK kk (Sum.inl n : Key) (.ref m))) pl = some (.dK kp) := by
      rw [upd_ne (Ne.symm n3)]
      exact up2 _ _ hp1
    have hc3 : upd H2 kn (.dK (putK kk (Sum.inl n : Key) (.ref m))) cc = some (.dK (putK kvs (Sum.inr "mount" : Key) (.int (n + 1)))) := by
      rw [upd_ne n1]
      exact up2 _ _ hc1
    have nek : ∀ {b o}, upd H2 kn (.dK (putK kk (Sum.inl n : Key) (.ref m))) b = some o → b ≠ e := fun h => ne_of_none h he
    have he0 : H e = none := by
      cases z : H e with
      | none => rfl
      | some o =>
        by_cases z1 : e = cc
        · rw [z1, hc3] at he
          cases he
        by_cases z2 : e = kn
        · rw [z2, upd_same] at he
          cases he
        · rw [upd_ne z2, up2 _ _ (b1 e o z1 z)] at he
          cases he
    refine ⟨_, rfl, T, CT, dx, fs, .ref pl, rfl, (by rw [upd_ne (nek hT3)]; exact hT3), c.cl, c.no _ (by decide +kernel), lp, _, rfl, m, CM, dm, _, .int n, rfl, (by rw [upd_ne (nek hm3)]; exact hm3), cM.cl, cM.no _ (by decide +kernel), lm, pl, _, rfl, DPut.k (k := (Sum.inl n : Key)) (kvs := kp) (by rw [upd_ne (nek hp3)]; exact hp3) (Nat.lt_of_le_of_lt hpl (by decide)), _, rfl, ?_⟩
    have nep : e ≠ pl := Ne.symm (nek hp3)
    refine q _ m dm e (fun d o d1 d2 d3 h => ?_) hm0 he0 ?_ ?_ ?_ ?_ ?_ (nek hm3)
    · have h3 : upd H2 kn (.dK (putK kk (Sum.inl n : Key) (.ref m))) d = some o := by
        rw [upd_ne d2]
        exact up2 _ _ (b1 d o d1 h)
      rw [upd_ne d3, upd_ne (nek h3)]
      exact h3
    · rw [upd_ne nmp, upd_ne (nek hm3)]
      exact hm3
    · rw [upd_ne nep]
      exact upd_same
    · rw [upd_ne n2, upd_ne (nek hc3)]
      exact hc3
    · rw [upd_ne n3, upd_ne (nek (b := kn) upd_same)]
      exact upd_same
    · exact upd_same
end
end Tx
set_option autoImplicit true
set_option Elab.async false
set_option linter.all false
set_option maxRecDepth 100000
set_option maxHeartbeats 4000000
namespace Tx
open PySem PySem.Spec PyProof.Rows L2 Cm
/-! ### nodes as data -/
inductive Nd where
  | fil (i : Int)
  | lnk (z : Str)
  | dir (ks : List (Str × Nd))
/-- v stands for t in the dicts of H -/
inductive NdAt (H : Hp) : V → Nd → Prop
  | fil (i : Int) : NdAt H (.int i) (.fil i)
  | lnk (z : Str) (hz : z.length ≤ 100000) : NdAt H (.str z) (.lnk z)
  | dir {a : Addr} {kvs : List (Key × V)} {ks : List (Str × Nd)} (h : H a = some (.dK kvs)) (hk : kvs.map (·.1) = ks.map fun p => (Sum.inr p.1 : Key)) (hn : (ks.map (·.1)).Nodup) (hl : ks.length < 64) (hz : ∀ p ∈ ks, p.1.length ≤ 100000)
      (hv : ∀ (i : Nat) (kv : Key × V) (p : Str × Nd), kvs[i]? = some kv → ks[i]? = some p → NdAt H kv.2 p.2) : NdAt H (.ref a) (.dir ks)
/-- the dicts stay -/
def DKeep (H H' : Hp) : Prop := ∀ b kvs, H b = some (.dK kvs) → H' b = some (.dK kvs)
theorem NdAt.mono {H H' : Hp} {v : V} {t : Nd} (h : NdAt H v t) (k : DKeep H H') : NdAt H' v t := by
  induction h with
  | fil i => exact .fil i
  | lnk z hz => exact .lnk z hz
  | dir h hk hn hl hz _ ih => exact .dir (k _ _ h) hk hn hl hz ih
theorem DKeep.same {H H' : Hp} (s : Same H H') : DKeep H H' := fun b _ h => s b _ h
theorem DKeep.but {H H' : Hp} {m : Addr} {o : HO} (b : But m H H') (hm : H m = some o) (ho : ∀ kvs, o ≠ .dK kvs) : DKeep H H' := fun c kvs h => b c _ (fun z => by
  rw [z, hm] at h
  exact ho kvs (Option.some.inj h)) h
theorem DKeep.trans {H H1 H2 : Hp} (a : DKeep H H1) (b : DKeep H1 H2) : DKeep H H2 := fun c kvs h => b c kvs (a c kvs h)
/-- what has come since H -/
def newIn (H H' : Hp) : Hp := fun b => match H b with | none => H' b | some _ => none
theorem newIn_of {H H' : Hp} {b : Addr} (h : H b = none) : newIn H H' b = H' b := by
  unfold newIn
  rw [h]
theorem newIn_some {H H' : Hp} {b : Addr} {o : HO} (h : newIn H H' b = some o) : H b = none ∧ H' b = some o := by
  unfold newIn at h
  cases e : H b with
  | none =>
    rw [e] at h
    exact ⟨rfl, h⟩
  | some u =>
    rw [e] at h
    cases h
theorem newIn_keep (H H' : Hp) : DKeep (newIn H H') H' := fun _ _ h => (newIn_some h).2
/-- what came in a part has come in the whole -/
theorem newIn_part {H H1 H2 H3 : Hp} (a : ∀ b o, H b = some o → ∃ u, H1 b = some u) (k : ∀ b kvs, H1 b = none → H2 b = some (.dK kvs) → H3 b = some (.dK kvs)) : DKeep (newIn H1 H2) (newIn H H3) := fun b kvs h => by
  obtain ⟨h1, h2⟩ := newIn_some h
  have h0 : H b = none := by
    cases e : H b with
    | none => rfl
    | some o =>
      obtain ⟨u, z⟩ := a b o e
      rw [z] at h1
      cases h1
  rw [newIn_of h0]
  exact k b kvs h1 h2
/-! ### names in order -/
def leS (a b : Str) : Bool := decide (a.cps.toList ≤ b.cps.toList)
def sortK (ks : List (Str × Nd)) : List (Str × Nd) := ks.mergeSort fun a b => leS a.1 b.1
theorem leS_trans (a b c : Str) (h1 : leS a b = true) (h2 : leS b c = true) : leS a c = true := by
  unfold leS at *
  simp only [decide_eq_true_eq] at *
  exact List.le_trans h1 h2
theorem leS_total (a b : Str) : (leS a b || leS b a) = true := by
  unfold leS
  simp only [Bool.or_eq_true, decide_eq_true_eq]
  exact List.le_total _ _
theorem leS_anti (a b : Str) (h1 : leS a b = true) (h2 : leS b a = true) : a = b := by
  unfold leS at *
  simp only [decide_eq_true_eq] at *
  exact TL.ext_tl (List.le_antisymm h1 h2)
theorem rising_le : ∀ (r : List Str) (x : Str), risingS x r = true → (x :: r).Pairwise fun a b => leS a b = true
  | [], x, _ => List.pairwise_singleton _ _
  | y :: r, x, h => by
    unfold risingS at h
    rw [Bool.and_eq_true, ltCps_eq] at h
    have h1 : leS x y = true := by
      unfold leS
      have z : ¬ y.cps.toList < x.cps.toList := by simpa using h.1
      rw [decide_eq_true_eq]
      exact z
    have ih := rising_le r y h.2
    refine List.pairwise_cons.mpr ⟨fun b hb => ?_, ih⟩
    rcases List.mem_cons.mp hb with e | e
    · rw [e]
      exact h1
    · exact leS_trans x y b h1 (List.rel_of_pairwise_cons ih e)
theorem sortK_names {ks : List (Str × Nd)} {ys : List Str} (hp : ys.Perm (ks.map (·.1))) (hs : sortedS ys = true) : ys = (sortK ks).map (·.1) := by
  have p1 : ys.Pairwise fun a b => leS a b = true := by
    cases ys with
    | nil => exact List.Pairwise.nil
    | cons x r => exact rising_le r x hs
  have p2 : ((sortK ks).map (·.1)).Pairwise fun a b => leS a b = true := by
    rw [List.pairwise_map]
    exact List.pairwise_mergeSort (le := fun a b : Str × Nd => leS a.1 b.1) (fun a b c => leS_trans _ _ _) (fun a b => leS_total _ _) ks
  refine List.Perm.eq_of_pairwise (fun a b _ _ h1 h2 => leS_anti a b h1 h2) p1 p2 (hp.trans ?_)
  exact ((List.mergeSort_perm ks _).map _).symm
theorem sortK_mem {ks : List (Str × Nd)} {p : Str × Nd} : p ∈ sortK ks ↔ p ∈ ks := (List.mergeSort_perm ks _).mem_iff
theorem sortK_len (ks : List (Str × Nd)) : (sortK ks).length = ks.length := (List.mergeSort_perm ks _).length_eq
theorem sortK_nodup {ks : List (Str × Nd)} (h : (ks.map (·.1)).Nodup) : ((sortK ks).map (·.1)).Nodup := ((List.mergeSort_perm ks _).map _).nodup_iff.mpr h
/-! ### what node_value makes of a datum: with g levels left, n nodes met -/
def nvs (f : Nd → Nat → Option (Nd × Nat)) : List (Str × Nd) → Nat → Option (List (Str × Nd) × Nat)
  | [], n => some ([], n)
  | p :: r, n => match f p.2 n with
    | none => none
    | some (t, m) => match nvs f r m with
      | none => none
      | some (r', m') => some ((p.1, t) :: r', m')
def wholeB (i : Int) : Bool := decide (1 - 10 ^ 60 ≤ i) && decide (i ≤ 10 ^ 60 - 1)
def nv : Nat → Nd → Nat → Option (Nd × Nat)
  | 0, _, _ => none
  | g + 1, t, n => if 61 < n + 1 then none else match t with
    | .fil i => if wholeB i then some (.fil i, n + 1) else none
    | .lnk z => if pathB z then some (.lnk z, n + 1) else none
    | .dir ks => if ks.all fun p => nameB p.1 then (match nvs (nv g) (sortK ks) (n + 1) with
      | some (ks', m) => some (.dir ks', m)
      | none => none) else none
theorem nvs_cons (f : Nd → Nat → Option (Nd × Nat)) (p : Str × Nd) (r : List (Str × Nd)) (n : Nat) : nvs f (p :: r) n = match f p.2 n with
    | none => none
    | some (t, m) => match nvs f r m with
      | none => none
      | some (r', m') => some ((p.1, t) :: r', m') := rfl
theorem nvs_append (f : Nd → Nat → Option (Nd × Nat)) : ∀ (a b : List (Str × Nd)) (n : Nat), nvs f (a ++ b) n = match nvs f a n with
    | none => none
    | some (r, m) => match nvs f b m with
      | none => none
      | some (r', m') => some (r ++ r', m')
  | [], b, n => by
    show nvs f b n = match nvs f b n with | none => none | some (r', m') => some ([] ++ r', m')
    cases nvs f b n with
    | none => rfl
    | some p => rfl
  | p :: a, b, n => by
    rw [List.cons_append, nvs_cons, nvs_cons]
    cases e : f p.2 n with
    | none => rfl
    | some q =>
      obtain ⟨t, m⟩ := q
      dsimp only
      rw [nvs_append f a b m]
      cases nvs f a m with
      | none => rfl
      | some q1 =>
        obtain ⟨r1, m1⟩ := q1
        dsimp only
        cases nvs f b m1 with
        | none => rfl
        | some q2 => rfl
theorem nvs_one (f : Nd → Nat → Option (Nd × Nat)) (p : Str × Nd) (n : Nat) : nvs f [p] n = match f p.2 n with
    | none => none
    | some (t, m) => some ([(p.1, t)], m) := by
  unfold nvs
  cases f p.2 n with
  | none => rfl
  | some q => rfl
/-- one more -/
theorem nvs_next {f : Nd → Nat → Option (Nd × Nat)} {S r : List (Str × Nd)} {p : Str × Nd} {i n m m' : Nat} {t : Nd} (hi : S[i]? = some p) (h : nvs f (S.take i) n = some (r, m)) (hf : f p.2 m = some (t, m')) : nvs f (S.take (i + 1)) n = some (r ++ [(p.1, t)], m') := by
  rw [take_snoc hi, nvs_append, h]
  dsimp only
  rw [nvs_one, hf]
theorem nvs_stop {f : Nd → Nat → Option (Nd × Nat)} {S r : List (Str × Nd)} {p : Str × Nd} {i n m : Nat} (hi : S[i]? = some p) (h : nvs f (S.take i) n = some (r, m)) (hf : f p.2 m = none) : nvs f S n = none := by
  have e : S = S.take (i + 1) ++ S.drop (i + 1) := (List.take_append_drop _ _).symm
  have q : nvs f (S.take (i + 1)) n = none := by
    rw [take_snoc hi, nvs_append, h]
    dsimp only
    rw [nvs_one, hf]
  rw [e, nvs_append, q]
theorem nvs_names {f : Nd → Nat → Option (Nd × Nat)} : ∀ {S r : List (Str × Nd)} {n m : Nat}, nvs f S n = some (r, m) → r.map (·.1) = S.map (·.1)
  | [], r, n, m, h => by
    cases h
    rfl
  | p :: S, r, n, m, h => by
    unfold nvs at h
    cases e : f p.2 n with
    | none =>
      rw [e] at h
      cases h
    | some q =>
      obtain ⟨t, m1⟩ := q
      rw [e] at h
      dsimp only at h
      cases e2 : nvs f S m1 with
      | none =>
        rw [e2] at h
        cases h
      | some q2 =>
        obtain ⟨r', m'⟩ := q2
        rw [e2] at h
        cases h
        rw [List.map_cons, List.map_cons, nvs_names e2]
theorem nvs_le {f : Nd → Nat → Option (Nd × Nat)} (hf : ∀ t n t' m, f t n = some (t', m) → m ≤ 61) : ∀ {S r : List (Str × Nd)} {n m : Nat}, n ≤ 61 → nvs f S n = some (r, m) → m ≤ 61
  | [], r, n, m, h0, h => by
    cases h
    exact h0
  | p :: S, r, n, m, h0, h => by
    unfold nvs at h
    cases e : f p.2 n with
    | none =>
      rw [e] at h
      cases h
    | some q =>
      obtain ⟨t, m1⟩ := q
      rw [e] at h
      dsimp only at h
      cases e2 : nvs f S m1 with
      | none =>
        rw [e2] at h
        cases h
      | some q2 =>
        obtain ⟨r', m'⟩ := q2
        rw [e2] at h
        cases h
        exact nvs_le hf (hf _ _ _ _ e) e2
theorem nv_le : ∀ (g : Nat) (t : Nd) (n : Nat) (t' : Nd) (m : Nat), nv g t n = some (t', m) → m ≤ 61
  | 0, t, n, t', m, h => by cases h
  | g + 1, t, n, t', m, h => by
    unfold nv at h
    split at h
    · cases h
    · rename_i h61
      cases t with
      | fil i =>
        dsimp only at h
        split at h
        · cases h
          omega
        · cases h
      | lnk z =>
        dsimp only at h
        split at h
        · cases h
          omega
        · cases h
      | dir ks =>
        dsimp only at h
        split at h
        · cases e : nvs (nv g) (sortK ks) (n + 1) with
          | none =>
            rw [e] at h
            cases h
          | some q =>
            obtain ⟨r, m1⟩ := q
            rw [e] at h
            cases h
            exact nvs_le (nv_le g) (by omega) e
        · cases h
/-! ### a dict's entries by place -/
theorem valV_at {κ : Type} [DecidableEq κ] : ∀ {kvs : List (κ × V)} {j : Nat} {k : κ} {v : V}, (kvs.map (·.1)).Nodup → kvs[j]? = some (k, v) → valV kvs k = some v
  | [], j, k, v, _, h => by simp at h
  | p :: r, 0, k, v, _, h => by
    have e : p = (k, v) := Option.some.inj h
    subst e
    simp [valV]
  | p :: r, j + 1, k, v, hn, h => by
    have hn' : (p.1 :: r.map (·.1)).Nodup := hn
    obtain ⟨h1, h2⟩ := List.nodup_cons.mp hn'
    have hr : r[j]? = some (k, v) := h
    have ne : p.1 ≠ k := fun z => h1 (by rw [z]; exact List.mem_map.mpr ⟨(k, v), List.mem_of_getElem? hr, rfl⟩)
    have ih := valV_at h2 hr
    unfold valV at ih ⊢
    rw [List.find?_cons_of_neg (by simpa using ne)]
    exact ih
end Tx
set_option autoImplicit true
set_option Elab.async false
set_option linter.all false
set_option maxRecDepth 100000
set_option maxHeartbeats 8000000
namespace Tx
open PySem PySem.Spec PyProof.Rows L2 Cm
/-- the class NoTree -/
structure No (K : PySem.W.Frag) (mg : Str → Option Value) (C : Addr) : Prop where
  g : mg "NoTree" = some (.ref C)
  x : PySem.W.excIn K C [.type "ValueError", .type "Exception", .type "BaseException", .type "object"] "ValueError.__new__" = true
  k : PySem.W.keepIn K (.ref C) = true
  b : PySem.W.subIn K (.ref C) (.type "BaseException") = some true
  t : PySem.W.typeIn K (.ref C) = some (.type "type")
  e : PySem.W.exmOne K (.ref C) (.ref C) = some true
def spNode (C : Addr) (g : Nat) : Sp := fun vs H Q E => ∃ v t m ms, vs = [v, .int (9 - (g : Int)), .ref m] ∧ NdAt H v t ∧ H m = some (.lst ms) ∧ ms.length ≤ 61 ∧
  (∀ t' n, nv g t ms.length = some (t', n) → ∀ v' ms' H', NdAt (newIn H H') v' t' → H' m = some (.lst ms') → ms'.length = n → But m H H' → Q v' H') ∧
  (nv g t ms.length = none → ∀ H', But m H H' → (∃ ms', H' m = some (.lst ms')) → E (.ref C) none H')
abbrev nN : List Str := ["thing", "depth", "met", "name"]
theorem scNode : FnScope nN ["thing", "depth", "met"] (defScope sNode) := ⟨rfl, rfl, rfl, by decide +kernel, rfl, by decide +kernel, by decide +kernel⟩
def stN (i : Nat) : Stmt := (defBody sNode).getD i (.Pass ⟨0, 0, 0, 0⟩)
section
variable {P : Program} {w : World} {K : PySem.W.Frag} {mg : Str → Option Value} {base : Heap} {f C : Addr} {cdv : Value} {A : Around} {outer : List Env} {s : Shared} {H0 : Hp} {E : XK}
abbrev XN (P : Program) (w : World) (K : PySem.W.Frag) (mg : Str → Option Value) (base : Heap) (f : Addr) (cdv : Value) (A : Around) (outer : List Env) (s : Shared) (H0 : Hp) (E : XK) : Cx := cxOf (L2.CX P w) P w K mg base nN "node_value" (defScope sNode) f cdv A outer s H0 E
/-- raise NoTree('..') -/
theorem ps_no {m : Str} {j : Nat} {p p2 p3 p4 : Pos} (T : No K mg C) : PS (XN P w K mg base f cdv A outer s H0 E) (.Raise (some (.Call (.Name "NoTree" p) [.Constant (.str m) j p2] [] p3)) none p4) (fun _ _ H => E (.ref C) none H) :=
  ps_raise rfl (takes_of rfl rfl rfl rfl) (pmk_own PySem.F.excBase_ValueError T.x T.g T.k (raises_own T.b T.t) (by rfl))
def sl (v : V) (d : Int) (m : Addr) : L2.St := [some v, some (.int d), some (.ref m), none]
/-- met.append(depth); the two checks -/
theorem hN0 {v : V} {d : Int} {m : Addr} {ms : List V} {H : Hp} (hm : H m = some (.lst ms)) (hl : ms.length ≤ 61) :
    Ho (XN P w K mg base f cdv A outer s H0 E) (stN 0) (fun σ H' => σ = sl v d m ∧ H' = H) (fun σ H' => σ = sl v d m ∧ H' = upd H m (.lst (ms ++ [.int d]))) := by
  refine ⟨_, ps_expr (pe_bm PySem.F.plainAttrs_list PySem.F.slot_list_append PySem.F.type_list_append mt_append (pv 2) (pa_cons (pv 1) pa_nil)), ?_⟩
  rintro D σ H' ⟨rfl, rfl⟩ q
  exact ⟨_, rfl, .inl ⟨rfl, _, SqL.of hm⟩, _, rfl, m, ms, _, rfl, rfl, hm, small1000 (by omega), q _ _ ⟨rfl, rfl⟩⟩
theorem hN1 {v : V} {d : Int} {m : Addr} {H : Hp} (Cn : Co mg) (T : No K mg C) (hx : 8 < d → E (.ref C) none H) :
    Ho (XN P w K mg base f cdv A outer s H0 E) (stN 1) (fun σ H' => σ = sl v d m ∧ H' = H) (fun σ H' => σ = sl v d m ∧ H' = H ∧ d ≤ 8) := by
  obtain ⟨td, hd⟩ := Cn.depth
  refine ⟨_, ps_if (pt_cmpR op_gt (pv 1) (pe_glob (v := .int 8) (by rfl) hd ⟨_, rfl⟩) (nomark _)) (pss_one (ps_no T)) pss_nil, ?_⟩
  rintro D σ H' ⟨rfl, rfl⟩ q
  refine ⟨_, rfl, d, 8, rfl, rfl, _, rfl, ite2 (fun c => hx (of_decide_eq_true c)) (fun c => ?_)⟩
  have c' : ¬ 8 < d := fun z => c (decide_eq_true z)
  exact q _ _ ⟨rfl, rfl, by omega⟩
theorem hN2 {v : V} {d : Int} {m : Addr} {H : Hp} {ms : List V} (B : Bi mg) (Cn : Co mg) (T : No K mg C) (hm : H m = some (.lst ms)) (hx : 61 < ms.length → E (.ref C) none H) :
    Ho (XN P w K mg base f cdv A outer s H0 E) (stN 2) (fun σ H' => σ = sl v d m ∧ H' = H ∧ d ≤ 8) (fun σ H' => σ = sl v d m ∧ H' = H ∧ ms.length ≤ 61) := by
  obtain ⟨td, hd⟩ := Cn.nodes
  refine ⟨_, ps_if (pt_cmpR op_gt (pe_callB call_len_seq (by rfl) B.len PySem.boot_len (pa_cons (pv 2) pa_nil)) (pe_op op_add (pe_glob (v := .int 60) (by rfl) hd ⟨_, rfl⟩) pe_int) (nomark _)) (pss_one (ps_no T)) pss_nil, ?_⟩
  rintro D σ H' ⟨rfl, rfl, _⟩ q
  refine ⟨_, rfl, m, ms, rfl, .inl (SqL.of hm), 60, 1, rfl, rfl, _, _, rfl, rfl, _, rfl, ite2 (fun c => hx ?_) (fun c => ?_)⟩
  · have c' : (60 : Int) + 1 < (ms.length : Int) := of_decide_eq_true c
    omega
  · have c' : ¬ (60 : Int) + 1 < (ms.length : Int) := fun z => c (decide_eq_true z)
    exact q _ _ ⟨rfl, rfl, by omega⟩
/-- behind the dict's branch: a file or a link -/
theorem hN4 {v : V} {t : Nd} {d : Int} {m : Addr} {H : Hp} (B : Bi mg) (T : No K mg C) (W : Cl P w K mg base CX0 1 "is_whole" ["thing", "low", "high"] (spWhole K)) (Pt : Cl P w K mg base CX0 2 "is_path" ["thing"] (spPath K)) (hr : Room 2 (XN P w K mg base f cdv A outer s H0 E).A)
    (R : VK) (h1 : ∀ i, t = .fil i → v = .int i ∧ ∀ H', Same H H' → if wholeB i = true then R v H' else E (.ref C) none H') (h2 : ∀ z, t = .lnk z → v = .str z ∧ z.length ≤ 100000 ∧ ∀ H', Same H H' → if pathB z = true then R v H' else E (.ref C) none H') (h3 : ∀ ks, t ≠ .dir ks) :
    HoR (XN P w K mg base f cdv A outer s H0 E) [stN 4, stN 5, stN 6] (fun σ H' => σ = sl v d m ∧ H' = H) R := by
  refine ⟨_, pss_cons (ps_if (PW.pt (pw_and (pt_val (pe_callB call_isi (by rfl) B.isin (by decide +kernel) (pa_cons (pv 0) (pa_cons (pe_bltn (v := .ty "str") (by rfl) B.str (by decide +kernel) rfl) pa_nil)))) (pw_and1 (pt_val (pe_cl Pt hr (by decide) (by rfl) pass0 (pa_cons (pv 0) pa_nil)))))) (pss_one (ps_ret (pv 0))) pss_nil)
    (pss_cons (ps_if (pt_val (pe_cl W hr (by decide) (by rfl) pass0 (pa_cons (pv 0) (pa_cons (pe_op op_sub pe_int (pe_op op_pow pe_int pe_int)) (pa_cons (pe_op op_sub (pe_op op_pow pe_int pe_int) pe_int) pa_nil))))) (pss_one (ps_ret (pv 0))) pss_nil)
    (pss_one (ps_no T))), ?_⟩
  rintro D σ H' ⟨rfl, rfl⟩ q
  cases t with
  | dir ks => exact absurd rfl (h3 ks)
  | fil i =>
    obtain ⟨rfl, hq⟩ := h1 i rfl
    refine ⟨_, rfl, _, .ty "str", _, _, false, rfl, .ty _, .base (.int i), kit_ty (by decide +kernel), _, rfl, iteF (iteF ?_)⟩
    refine ⟨_, rfl, 10, 60, rfl, rfl, ⟨by decide, by decide, by decide⟩, 1, _, rfl, rfl, 10, 60, rfl, rfl, ⟨by decide, by decide, by decide⟩, _, 1, rfl, rfl, _, _, _, _, rfl, .int i _ _, _, rfl, ite2 (fun c => ?_) (fun c => ?_)⟩
    · have hh := hq H' (Same.refl H')
      rw [if_pos (show wholeB i = true from c)] at hh
      exact ⟨_, rfl, q _ _ hh⟩
    · have hh := hq H' (Same.refl H')
      rw [if_neg (show ¬ wholeB i = true from c)] at hh
      exact hh
  | lnk z =>
    obtain ⟨rfl, hz, hq⟩ := h2 z rfl
    refine ⟨_, rfl, _, .ty "str", _, _, true, rfl, .ty _, .base (.str z), kit_ty (by decide +kernel), _, rfl, iteT ?_⟩
    refine ⟨_, rfl, _, _, rfl, .str z hz, fun H2 s2 => ⟨_, rfl, ite2 (fun c => ?_) (fun c => ?_)⟩⟩
    · have hh := hq H2 s2
      rw [if_pos c] at hh
      exact ⟨_, rfl, q _ _ hh⟩
    · have hh := hq H2 s2
      rw [if_neg c] at hh
      refine ⟨_, rfl, 10, 60, rfl, rfl, ⟨by decide, by decide, by decide⟩, 1, _, rfl, rfl, 10, 60, rfl, rfl, ⟨by decide, by decide, by decide⟩, _, 1, rfl, rfl, _, _, _, _, rfl, .other _ _ (.base (.str z)) (by decide +kernel), _, rfl, iteF ?_⟩
      exact hh
end
end Tx
set_option autoImplicit true
set_option Elab.async false
set_option linter.all false
set_option maxRecDepth 100000
set_option maxHeartbeats 8000000
namespace Tx
open PySem PySem.Spec PyProof.Rows L2 Cm
section
variable {P : Program} {w : World} {K : PySem.W.Frag} {mg : Str → Option Value} {base : Heap} {f C : Addr} {cdv : Value} {A : Around} {outer : List Env} {s : Shared} {H0 : Hp} {E : XK}
/-- no dict: go on -/
theorem hN3n {v : V} {t : Nd} {d : Int} {m : Addr} {H : Hp} {n : Nat} (B : Bi mg) (hv : NdAt H v t) (h3 : ∀ ks, t ≠ .dir ks) :
    Ho (XN P w K mg base f cdv A outer s H0 E) (stN 3) (fun σ H' => σ = sl v d m ∧ H' = H ∧ n ≤ 61) (fun σ H' => σ = sl v d m ∧ H' = H) := by
  refine ⟨_, ps_if (pt_val (pe_callB call_isi (by rfl) B.isin (by decide +kernel) (pa_cons (pv 0) (pa_cons (pe_bltn (v := .ty "dict") (by rfl) B.dict (by decide +kernel) rfl) pa_nil)))) (pss_cons ps_never (pss_one ps_never)) pss_nil, ?_⟩
  rintro D σ H' ⟨rfl, rfl, _⟩ q
  cases hv with
  | fil i => exact ⟨_, rfl, _, .ty "dict", _, _, false, rfl, .ty _, .base (.int i), kit_ty (by decide +kernel), _, rfl, iteF (q _ _ ⟨rfl, rfl⟩)⟩
  | lnk z hz => exact ⟨_, rfl, _, .ty "dict", _, _, false, rfl, .ty _, .base (.str z), kit_ty (by decide +kernel), _, rfl, iteF (q _ _ ⟨rfl, rfl⟩)⟩
  | dir h hk hn hl hz hv => exact absurd rfl (h3 _)
/-- if not all([is_name(name) for name in thing]): raise -/
def stN3 (i : Nat) : Stmt := match stN 3 with | .If _ b _ _ => b.getD i (.Pass ⟨0, 0, 0, 0⟩) | _ => .Pass ⟨0, 0, 0, 0⟩
theorem hD0 {a : Addr} {ks : List (Str × Nd)} {kvs : List (Key × V)} {d : Int} {m : Addr} {H : Hp} (B : Bi mg) (T : No K mg C) (N : Cl P w K mg base CX0 1 "is_name" ["thing"] (spName K)) (hr : Room 2 (XN P w K mg base f cdv A outer s H0 E).A)
    (h : H a = some (.dK kvs)) (hk : kvs.map (·.1) = ks.map fun p => (Sum.inr p.1 : Key)) (hl : ks.length < 64) (hz : ∀ p ∈ ks, p.1.length ≤ 100000) (hx : (ks.all fun p => nameB p.1) = false → ∀ H', Same H H' → E (.ref C) none H') :
    Ho (XN P w K mg base f cdv A outer s H0 E) (stN3 0) (fun σ H' => σ = sl (.ref a) d m ∧ H' = H) (fun σ H' => σ = sl (.ref a) d m ∧ Same H H' ∧ (ks.all fun p => nameB p.1) = true) := by
  refine ⟨_, ps_if (pt_not (pt_val (pe_callB (cr_all rfl) (by rfl) B.all (by decide +kernel) (pa_cons (pe_lock (pe_lc (own := [("name", 3)]) (g := gName 3) (tt := tYes) (by rfl) scNode.nd (pi_keys (pv 0)) (blkOk_by (own := [("name", 3)]) (N := nN) (sc := defScope sNode) (by decide +kernel)) (fun _ _ _ _ _ => pg_name (i := 3) scNode.nd rfl (Or.inl rfl)) (fun _ _ _ _ _ => pts_nil) (fun _ _ _ _ _ => pe_cl N hr (by decide) (by rfl) pass0 (pa_cons (pv 3) pa_nil)))) pa_nil)))) (pss_one (ps_no T)) pss_nil, ?_⟩
  rintro D σ H' ⟨rfl, rfl⟩ q
  have hlen : kvs.length = ks.length := by
    have e := congrArg List.length hk
    rw [List.length_map, List.length_map] at e
    exact e
  refine ⟨a, .dK kvs, h, True.intro, fun od => ?_⟩
  refine ⟨_, rfl, a, od, rfl, .inl ⟨kvs, upd_same, fun L hL => lc_it walk_keys (fun i H2 => H2 L = some (.lst (((ks.map fun p => nameB p.1).take i).map V.bl)) ∧ H2 a = some (.frz od (.dK kvs)) ∧ ∀ b o, b ≠ a → H' b = some o → H2 b = some o) ?_ (fun i H2 _ h2 => h2.2.1) ?_ ?_⟩⟩
  · have na : a ≠ L := ne_of_none (show upd H' a _ a = some _ from upd_same) hL
    refine ⟨upd_same, by rw [upd_ne na]; exact upd_same, fun b o nb e => ?_⟩
    have e2 : upd H' a (.frz od (.dK kvs)) b = some o := by rw [upd_ne nb]; exact e
    rw [upd_ne (ne_of_none e2 hL)]
    exact e2
  · rintro i x H1 H2 hi ⟨h1, h2, h3⟩ ⟨rfl, k, v, hkv, rfl⟩
    have na : a ≠ L := ne_of_none (show upd H' a _ a = some _ from upd_same) hL
    have hi' : i < ks.length := by omega
    have ek : k = Sum.inr ks[i].1 := by
      have e1 : (kvs.map (·.1))[i]? = some k := by rw [List.getElem?_map, hkv]; rfl
      rw [hk, List.getElem?_map, List.getElem?_eq_getElem hi'] at e1
      exact (Option.some.inj e1).symm
    subst ek
    refine ⟨rfl, _, rfl, _, _, rfl, .str ks[i].1 (hz _ (List.getElem_mem hi')), fun H3 s3 => ?_⟩
    have eg : (ks.map fun p => nameB p.1)[i]? = some (nameB ks[i].1) := by
      rw [List.getElem?_map, List.getElem?_eq_getElem hi']
      rfl
    refine ⟨_, s3 _ _ h1, small1000 ?_, ?_, ?_, fun b o nb e => ?_⟩
    · rw [List.length_map, List.length_take, List.length_map]
      omega
    · rw [upd_same, take_snoc eg, List.map_append]
      rfl
    · rw [upd_ne na]
      exact s3 _ _ h2
    · have nL : H' L = none := by
        cases e0 : H' L with
        | none => rfl
        | some o0 =>
          exfalso
          have z : upd H' a (.frz od (.dK kvs)) L = some o0 := by rw [upd_ne na.symm]; exact e0
          rw [z] at hL
          cases hL
      rw [upd_ne (ne_of_none e nL)]
      exact s3 _ _ (h3 b o nb e)
  · rintro H1 ⟨h1, h2, h3⟩
    have na : a ≠ L := ne_of_none (show upd H' a _ a = some _ from upd_same) hL
    have e : (ks.map fun p => nameB p.1).take kvs.length = ks.map fun p => nameB p.1 := List.take_of_length_le (by rw [List.length_map]; omega)
    rw [e] at h1
    have sm : Same H' (upd H1 a (.dK kvs)) := fun b o e => by
      by_cases eb : b = a
      · subst eb
        rw [upd_same, ← h]
        exact e
      · rw [upd_ne eb]
        exact h3 b o eb e
    refine ⟨h2, L, _, rfl, SqL.of (by rw [upd_ne na.symm]; exact h1), _, rfl, ?_⟩
    have ea : (ks.map fun p => nameB p.1).all id = ks.all fun p => nameB p.1 := by
      rw [List.all_map]
      rfl
    rw [ea]
    cases c : (ks.all fun p => nameB p.1) with
    | true => exact iteF (q _ _ ⟨rfl, sm, c⟩)
    | false => exact iteT (hx c _ sm)
end
end Tx
set_option autoImplicit true
set_option Elab.async false
set_option linter.all false
set_option maxRecDepth 100000
set_option maxHeartbeats 8000000
namespace Tx
open PySem PySem.Spec PyProof.Rows L2 Cm
/-- all but m and D stay -/
def But2 (m D : Addr) (H H' : Hp) : Prop := ∀ b o, b ≠ m → b ≠ D → H b = some o → H' b = some o
/-- what holds of the new dict at D when i names are done -/
structure DcI (f : Nd → Nat → Option (Nd × Nat)) (S : List (Str × Nd)) (n0 : Nat) (HD : Hp) (m D : Addr) (i : Nat) (H' : Hp) (r : List (Str × Nd)) (n : Nat) (kvs : List (Key × V)) (ms : List V) : Prop where
  nvs : nvs f (S.take i) n0 = some (r, n)
  d : H' D = some (.dK kvs)
  k : kvs.map (·.1) = r.map fun p => (Sum.inr p.1 : Key)
  v : ∀ (j : Nat) (kv : Key × V) (p : Str × Nd), kvs[j]? = some kv → r[j]? = some p → NdAt (newIn HD H') kv.2 p.2
  mm : H' m = some (.lst ms)
  ml : ms.length = n
  b : But2 m D HD H'
theorem DcI.next {f : Nd → Nat → Option (Nd × Nat)} {S : List (Str × Nd)} {n0 : Nat} {HD H1 H2 : Hp} {m D : Addr} {i n n' : Nat} {r : List (Str × Nd)} {kvs : List (Key × V)} {ms ms' : List V} {p : Str × Nd} {t' : Nd} {v' : V}
    (I : DcI f S n0 HD m D i H1 r n kvs ms) (hS : (S.map (·.1)).Nodup) (hp : S[i]? = some p) (hf : f p.2 n = some (t', n')) (hmD : m ≠ D) (hDm : ∃ o, HD m = some o) (hDD : ∃ o, HD D = some o)
    (hv : NdAt (newIn H1 H2) v' t') (hm : H2 m = some (.lst ms')) (hl : ms'.length = n') (hb : But m H1 H2) :
    H2 D = some (.dK kvs) ∧ DcI f S n0 HD m D (i + 1) (upd H2 D (.dK (putK kvs (Sum.inr p.1) v'))) (r ++ [(p.1, t')]) n' (putK kvs (Sum.inr p.1) v') ms' := by
  have hD2 : H2 D = some (.dK kvs) := hb D _ hmD.symm I.d
  have hlen : kvs.length = r.length := by
    have e := congrArg List.length I.k
    rw [List.length_map, List.length_map] at e
    exact e
  have hrn : r.map (·.1) = (S.take i).map (·.1) := nvs_names I.nvs
  have hnew : valV kvs (Sum.inr p.1 : Key) = none := by
    unfold valV
    have z : kvs.find? (fun q => decide (q.1 = (Sum.inr p.1 : Key))) = none := by
      rw [List.find?_eq_none]
      intro q hq c
      have c' : q.1 = (Sum.inr p.1 : Key) := of_decide_eq_true c
      have h1 : (Sum.inr p.1 : Key) ∈ kvs.map (·.1) := List.mem_map.mpr ⟨q, hq, c'⟩
      rw [I.k] at h1
      obtain ⟨q2, hq2, e2⟩ := List.mem_map.mp h1
      have e3 : q2.1 = p.1 := Sum.inr.inj e2
      have h3 : p.1 ∈ (S.take i).map (·.1) := by
        rw [← hrn, ← e3]
        exact List.mem_map.mpr ⟨q2, hq2, rfl⟩
      have hS2 : ((S.take (i + 1)).map (·.1)).Nodup := by
        have q : (S.take (i + 1)).Sublist S := List.take_sublist _ _
        exact (q.map _).nodup hS
      rw [take_snoc hp, List.map_append, List.nodup_append] at hS2
      exact hS2.2.2 p.1 h3 p.1 (by simp) rfl
    rw [z]
    rfl
  have hput : putK kvs (Sum.inr p.1 : Key) v' = kvs ++ [(Sum.inr p.1, v')] := putK_new v' hnew
  have kp1 : DKeep (newIn HD H1) (newIn HD (upd H2 D (.dK (putK kvs (Sum.inr p.1) v')))) := newIn_part (fun b o h => ⟨o, h⟩) fun b k h0 h1 => by
    have nD : b ≠ D := fun z => by
      obtain ⟨o, e⟩ := hDD
      rw [z, e] at h0
      cases h0
    have nm : b ≠ m := fun z => by
      obtain ⟨o, e⟩ := hDm
      rw [z, e] at h0
      cases h0
    rw [upd_ne nD]
    exact hb b _ nm h1
  have kp2 : DKeep (newIn H1 H2) (newIn HD (upd H2 D (.dK (putK kvs (Sum.inr p.1) v')))) := newIn_part (fun b o h => by
    by_cases c1 : b = m
    · exact ⟨_, by rw [c1]; exact I.mm⟩
    · by_cases c2 : b = D
      · exact ⟨_, by rw [c2]; exact I.d⟩
      · exact ⟨o, I.b b o c1 c2 h⟩) fun b k h0 h1 => by
    have nD : b ≠ D := fun z => by
      rw [z, I.d] at h0
      cases h0
    rw [upd_ne nD]
    exact h1
  refine ⟨hD2, ⟨nvs_next hp I.nvs hf, upd_same, ?_, ?_, ?_, hl, ?_⟩⟩
  · rw [hput, List.map_append, List.map_append, I.k]
    rfl
  · rw [hput]
    intro j kv q h1 h2
    by_cases c : j < kvs.length
    · rw [List.getElem?_append_left c] at h1
      rw [List.getElem?_append_left (by omega)] at h2
      have z := (I.v j kv q h1 h2).mono kp1
      rw [hput] at z
      exact z
    · rw [List.getElem?_append_right (by omega)] at h1 h2
      have e : j - kvs.length = 0 := by
        cases e : j - kvs.length with
        | zero => rfl
        | succ k =>
          rw [e] at h1
          cases h1
      rw [← hlen, e] at h2
      rw [e] at h1
      cases h1
      cases h2
      have z := hv.mono kp2
      rw [hput] at z
      exact z
  · rw [upd_ne hmD]
    exact hm
  · intro b o n1 n2 h
    rw [upd_ne n2]
    exact hb b o n1 (I.b b o n1 n2 h)
section
variable {P : Program} {w : World} {K : PySem.W.Frag} {mg : Str → Option Value} {base : Heap} {f C : Addr} {cdv : Value} {A : Around} {outer : List Env} {s : Shared} {H0 : Hp} {E : XK}
/-- return {name: node_value(thing[name], depth + 1, met) for name in sorted(thing)} -/
theorem hD1 {pr : Prop} {g j : Nat} {a : Addr} {ks : List (Str × Nd)} {m : Addr} {H : Hp} {ms : List V} (B : Bi mg) (R : VK) (NX : Cl P w K mg base (L2.CX P w) j "node_value" ["thing", "depth", "met"] (spNode C g)) (hr : Room j (XN P w K mg base f cdv A outer s H0 E).A)
    (hH : NdAt H (.ref a) (.dir ks)) (hm : H m = some (.lst ms)) (hms : ms.length ≤ 61)
    (hq : pr → ∀ ks' n, nvs (nv g) (sortK ks) ms.length = some (ks', n) → ∀ D ms' H', NdAt (newIn H H') (.ref D) (.dir ks') → H' m = some (.lst ms') → ms'.length = n → But m H H' → R (.ref D) H')
    (hx : pr → nvs (nv g) (sortK ks) ms.length = none → ∀ H', But m H H' → (∃ ms', H' m = some (.lst ms')) → E (.ref C) none H') :
    HoR (XN P w K mg base f cdv A outer s H0 E) [stN3 1] (fun σ H' => σ = sl (.ref a) (8 - (g : Int)) m ∧ Same H H' ∧ pr) R := by
  have hu : (XN P w K mg base f cdv A outer s H0 E).A.units + 1 < cLine := by
    have := hr.units
    omega
  refine ⟨_, pss_one (ps_ret (DcE.pe_dcE (own := [("name", 3)]) (g := gName 3) (E := E) (by rfl) scNode.nd (takes_of rfl rfl rfl rfl) (by rfl) (by rfl) (pi_list (pe_callB (call_sortedD rfl) (by rfl) B.sorted boot_sorted (pa_cons (pv 0) pa_nil))) (blkOk_by (own := [("name", 3)]) (N := nN) (sc := defScope sNode) (by decide +kernel)) (fun _ _ _ _ _ => pg_name (i := 3) scNode.nd rfl (Or.inl rfl)) (fun _ _ _ _ _ => pv 3)
    (fun _ _ _ _ _ _ hP => pe_cl NX hr (Nat.le_refl _) (by rfl) hP (pa_cons (pe_dget hu (pv 0) (pv 3) (fun _ _ => rfl)) (pa_cons (pe_op op_add (pv 1) pe_int) (pa_cons (pv 2) pa_nil)))))), ?_⟩
  rintro D0 σ H' ⟨rfl, sm, hpr⟩ q
  replace hq := fun ks' n e D ms' H2 (hN : NdAt (newIn H' H2) (.ref D) (.dir ks')) hM hL (hB : But m H' H2) => hq hpr ks' n e D ms' H2 (hN.mono (newIn_part (fun b o eb => ⟨o, sm _ _ eb⟩) fun _ _ _ e => e)) hM hL ((Same.but m sm).trans hB)
  replace hx := fun e H2 (hB : But m H' H2) hM => hx hpr e H2 ((Same.but m sm).trans hB) hM
  replace hH := hH.mono (DKeep.same sm)
  replace hm := sm _ _ hm
  clear sm hpr
  cases hH with
  | @dir _ kvs _ h hk hn hl hz hv =>
  have hk0 : kvs.map (·.1) = (ks.map (·.1)).map (Sum.inr : Str → Key) := by
    rw [List.map_map]
    exact hk
  refine ⟨_, rfl, a, kvs, ks.map (·.1), rfl, .inl h, hk0, by rw [List.length_map]; exact hl, fun ys p hp hs hpn => ?_⟩
  have eys : ys = (sortK ks).map (·.1) := sortK_names hp hs
  subst eys
  obtain ⟨HS, eHS⟩ : ∃ HS, HS = upd H' p (.lst (((sortK ks).map (·.1)).map V.str)) := ⟨_, rfl⟩
  rw [← eHS]
  have hSp : HS p = some (.lst (((sortK ks).map (·.1)).map V.str)) := by rw [eHS]; exact upd_same
  have sS : Same H' HS := by rw [eHS]; exact same_new hpn
  refine ⟨p, rfl, ⟨_, SqL.of hSp⟩, fun D hD => ?_⟩
  have hmS : HS m = some (.lst ms) := sS _ _ hm
  have mD : m ≠ D := ne_of_none hmS hD
  have pD : p ≠ D := ne_of_none hSp hD
  have aD : a ≠ D := ne_of_none (sS _ _ h) hD
  have am : a ≠ m := fun z => by
    rw [z, hm] at h
    cases h
  have pm : p ≠ m := fun z => by
    rw [z, hm] at hpn
    cases hpn
  have keepH : ∀ {b o}, H' b = some o → b ≠ D := fun {b o} e => ne_of_none (sS _ _ e) hD
  have hkn : (kvs.map (·.1)).Nodup := by
    rw [hk0]
    unfold List.Nodup at hn ⊢
    rw [List.pairwise_map]
    exact hn.imp fun h e => h (Sum.inr.inj e)
  obtain ⟨HD, eHD⟩ : ∃ HD, HD = upd HS D (.dK []) := ⟨_, rfl⟩
  have hDm : HD m = some (.lst ms) := by rw [eHD, upd_ne mD]; exact hmS
  have hDp : HD p = some (.lst (((sortK ks).map (·.1)).map V.str)) := by rw [eHD, upd_ne pD]; exact hSp
  have hDD : HD D = some (.dK []) := by rw [eHD]; exact upd_same
  have HtoD : ∀ b o, H' b = some o → HD b = some o := fun b o e => by
    rw [eHD, upd_ne (keepH e)]
    exact sS _ _ e
  refine DcE.dce_list (K := K) (xs := ((sortK ks).map (·.1)).map V.str) (fun i H2 => ∃ r n kv2 ms2, DcI (nv g) (sortK ks) ms.length HD m D i H2 r n kv2 ms2) ?_ ?_ ?_ ?_
  · rw [← eHD]
    exact ⟨[], ms.length, [], ms, rfl, hDD, rfl, fun j kv p e => by simp at e, hDm, rfl, fun b o _ _ e => e⟩
  · rintro i H2 _ ⟨r, n, kv2, ms2, I⟩
    exact SqL.of (I.b p _ pm pD hDp)
  · rintro i x H2 hi ⟨r, n, kv2, ms2, I⟩
    obtain ⟨pr, hpr, rfl⟩ : ∃ pr, (sortK ks)[i]? = some pr ∧ x = .str pr.1 := by
      rw [List.map_map, List.getElem?_map] at hi
      cases e : (sortK ks)[i]? with
      | none =>
        rw [e] at hi
        cases hi
      | some pr =>
        rw [e] at hi
        exact ⟨pr, rfl, (Option.some.inj hi).symm⟩
    have hmem : pr ∈ ks := sortK_mem.mp (List.mem_of_getElem? hpr)
    obtain ⟨j0, hj0⟩ := List.getElem?_of_mem hmem
    have hlen : kvs.length = ks.length := by
      have e := congrArg List.length hk
      rw [List.length_map, List.length_map] at e
      exact e
    have hjl : j0 < kvs.length := by
      rw [hlen]
      exact (List.getElem?_eq_some_iff.mp hj0).1
    obtain ⟨kv, hkv⟩ : ∃ kv, kvs[j0]? = some kv := ⟨_, List.getElem?_eq_getElem hjl⟩
    have ekv : kv.1 = Sum.inr pr.1 := by
      have e1 : (kvs.map (·.1))[j0]? = some kv.1 := by rw [List.getElem?_map, hkv]; rfl
      rw [hk, List.getElem?_map, hj0] at e1
      exact (Option.some.inj e1).symm
    have hget : valV kvs (Sum.inr pr.1 : Key) = some kv.2 := valV_at hkn (by rw [hkv, ← ekv])
    have h2a : H2 a = some (.dK kvs) := I.b a _ am aD (HtoD _ _ h)
    have hle : n ≤ 61 := nvs_le (nv_le g) hms I.nvs
    have hch : NdAt H2 kv.2 pr.2 := (hv j0 kv pr hkv hj0).mono fun b kvb e => I.b b _ (fun z => by
      rw [z, hm] at e
      cases e) (keepH e) (HtoD _ _ e)
    refine ⟨rfl, _, rfl, _, rfl, _, rfl, a, kv.2, rfl, ?_, ?_⟩
    · have z := DGet.k (k := (Sum.inr pr.1 : Key)) h2a
      rw [hget] at z
      exact z
    refine ⟨_, rfl, _, _, rfl, rfl, _, rfl, kv.2, pr.2, m, ms2, ?_, hch, I.mm, by rw [I.ml]; exact hle, ?_, ?_⟩
    · have e : (8 - (g : Int)) + 1 = 9 - (g : Int) := by omega
      rw [← e]
      rfl
    · intro t' n' e v' ms' H3 hv' hm' hl' hb'
      rw [I.ml] at e
      obtain ⟨z1, z2⟩ := I.next (sortK_nodup hn) hpr e mD ⟨_, hDm⟩ ⟨_, hDD⟩ hv' hm' hl' hb'
      refine ⟨kv2, Sum.inr pr.1, rfl, z1, small1000 ?_, _, _, _, _, z2⟩
      have e1 := congrArg List.length I.k
      rw [List.length_map, List.length_map] at e1
      have e2 := congrArg List.length (nvs_names I.nvs)
      rw [List.length_map, List.length_map, List.length_take] at e2
      have e3 := sortK_len ks
      omega
    · intro e H3 hb' hm'
      rw [I.ml] at e
      refine hx (nvs_stop hpr I.nvs e) H3 (fun b o nb eb => ?_) hm'
      exact hb' b o nb (I.b b o nb (keepH eb) (HtoD _ _ eb))
  · rintro H2 ⟨r, n, kv2, ms2, I⟩
    have e : (sortK ks).take (((sortK ks).map (·.1)).map V.str).length = sortK ks := List.take_of_length_le (by rw [List.length_map, List.length_map]; exact Nat.le_refl _)
    have hnvs := I.nvs
    rw [e] at hnvs
    have er : r.map (·.1) = (sortK ks).map (·.1) := nvs_names hnvs
    refine q _ _ (hq r n hnvs D ms2 H2 ?_ I.mm I.ml fun b o nb eb => I.b b o nb (keepH eb) (HtoD _ _ eb))
    have hDn : H' D = none := by
      cases e0 : H' D with
      | none => rfl
      | some o =>
        rw [sS _ _ e0] at hD
        cases hD
    refine .dir (by rw [newIn_of hDn]; exact I.d) I.k (by rw [er]; exact sortK_nodup hn) ?_ ?_ ?_
    · have e3 := congrArg List.length er
      rw [List.length_map, List.length_map, sortK_len] at e3
      omega
    · intro q0 hq0
      have z : q0.1 ∈ (sortK ks).map (·.1) := by
        rw [← er]
        exact List.mem_map.mpr ⟨q0, hq0, rfl⟩
      obtain ⟨q1, hq1, e1⟩ := List.mem_map.mp z
      rw [← e1]
      exact hz _ (sortK_mem.mp hq1)
    · intro i kv p0 e1 e2
      refine (I.v i kv p0 e1 e2).mono (newIn_part (fun b o eb => ⟨o, HtoD _ _ eb⟩) fun b kb _ eb => eb)
/-- a dict -/
theorem hN3d {g j : Nat} {a : Addr} {ks : List (Str × Nd)} {m : Addr} {H : Hp} {ms : List V} {x : Nat} (B : Bi mg) (T : No K mg C) (R : VK) (N : Cl P w K mg base CX0 1 "is_name" ["thing"] (spName K)) (NX : Cl P w K mg base (L2.CX P w) j "node_value" ["thing", "depth", "met"] (spNode C g)) (hr : Room j (XN P w K mg base f cdv A outer s H0 E).A) (hj : 2 ≤ j)
    (hH : NdAt H (.ref a) (.dir ks)) (hm : H m = some (.lst ms)) (hms : ms.length ≤ 61)
    (hq : (ks.all fun p => nameB p.1) = true → ∀ ks' n, nvs (nv g) (sortK ks) ms.length = some (ks', n) → ∀ D ms' H', NdAt (newIn H H') (.ref D) (.dir ks') → H' m = some (.lst ms') → ms'.length = n → But m H H' → R (.ref D) H')
    (hx : (ks.all fun p => nameB p.1) = false ∨ nvs (nv g) (sortK ks) ms.length = none → ∀ H', But m H H' → (∃ ms', H' m = some (.lst ms')) → E (.ref C) none H') :
    HoR (XN P w K mg base f cdv A outer s H0 E) [stN 3, stN 4, stN 5, stN 6] (fun σ H' => σ = sl (.ref a) (8 - (g : Int)) m ∧ H' = H ∧ x ≤ 61) R := by
  cases hH with
  | @dir _ kvs _ h hk hn hl hz hv =>
  have b0 := hD0 (s := s) (H0 := H0) (E := E) (A := A) (outer := outer) (cdv := cdv) (d := 8 - (g : Int)) (m := m) B T N (hr.mono hj) h hk hl hz (fun c H' sm => hx (.inl c) H' (Same.but m sm) ⟨ms, sm _ _ hm⟩)
  obtain ⟨t0, p0, r0⟩ := b0
  obtain ⟨t1, p1, r1⟩ := hD1 (s := s) (H0 := H0) (E := E) (A := A) (outer := outer) (cdv := cdv) (f := f) (pr := (ks.all fun p => nameB p.1) = true) B R NX hr (.dir h hk hn hl hz hv) hm hms hq (fun _ e => hx (.inr e))
  refine ⟨_, pss_cons (ps_if (pt_val (pe_callB call_isi (by rfl) B.isin (by decide +kernel) (pa_cons (pv 0) (pa_cons (pe_bltn (v := .ty "dict") (by rfl) B.dict (by decide +kernel) rfl) pa_nil)))) (pss_cons p0 p1) pss_nil) (pss_cons ps_never (pss_cons ps_never (pss_one ps_never))), ?_⟩
  rintro D σ H' ⟨rfl, rfl, _⟩ q
  refine ⟨_, rfl, _, .ty "dict", _, _, true, rfl, .ty _, .base (.dK h), kit_ty (by decide +kernel), _, rfl, iteT ?_⟩
  exact r0 _ _ _ ⟨rfl, rfl⟩ fun σ' H2 z => r1 _ _ _ z q
end
end Tx
set_option autoImplicit true
set_option Elab.async false
set_option linter.all false
set_option maxRecDepth 100000
set_option maxHeartbeats 8000000
namespace Tx
open PySem PySem.Spec PyProof.Rows L2 Cm
theorem bodyNode : defBody sNode = [stN 0, stN 1, stN 2, stN 3, stN 4, stN 5, stN 6] := rfl
theorem HoR.never {X : Cx} {p : L2.St → Hp → Prop} {R : VK} (hp : ∀ σ H, ¬ p σ H) : ∀ sts : List Stmt, HoR X sts p R
  | [] => ⟨_, pss_nil, fun D σ H h => absurd h (hp σ H)⟩
  | st :: r => by
    obtain ⟨t, ht, h⟩ := HoR.never (X := X) (R := R) hp r
    exact ⟨_, pss_cons ps_never ht, fun D σ H h => absurd h (hp σ H)⟩
theorem nv_succ (g : Nat) (t : Nd) (n : Nat) : nv (g + 1) t n = if 61 < n + 1 then none else match t with
    | .fil i => if wholeB i then some (.fil i, n + 1) else none
    | .lnk z => if pathB z then some (.lnk z, n + 1) else none
    | .dir ks => if ks.all fun p => nameB p.1 then (match nvs (nv g) (sortK ks) (n + 1) with
      | some (ks', m) => some (.dir ks', m)
      | none => none) else none := by
  cases t <;> rfl
section
variable {P : Program} {w : World} {K : PySem.W.Frag} {mg : Str → Option Value} {base : Heap} {f C : Addr} {fd : FuncData}
theorem ok_node (F : Fun K "node_value" "node_value" sNode f fd) (hm : mg "node_value" = some (.ref f)) (hb : Binds K fd ["thing", "depth", "met"] []) (B : Bi mg) (Cn : Co mg) (T : No K mg C)
    (W : Cl P w K mg base CX0 1 "is_whole" ["thing", "low", "high"] (spWhole K)) (N : Cl P w K mg base CX0 1 "is_name" ["thing"] (spName K)) (Pt : Cl P w K mg base CX0 2 "is_path" ["thing"] (spPath K)) :
    ∀ g, FnOk P w K mg base (L2.CX P w) (g + 3) f fd ["thing", "depth", "met"] (spNode C g)
  | 0 => by
    refine F.okX scNode (fun vs H Q E h => ?_) (fun cdv A outer s H vs Q E hr h => ?_)
    · obtain ⟨v, t, m, ms, rfl, _⟩ := h
      rfl
    · obtain ⟨v, t, m, ms, rfl, hv, hm, hl, _, hE⟩ := h
      rw [bodyNode]
      have q : HoR (XN P w K mg base f cdv A outer s H E) [stN 0, stN 1, stN 2, stN 3, stN 4, stN 5, stN 6] (fun σ H' => σ = sl v 9 m ∧ H' = H) Q := HoR.cons (hN0 hm hl) (HoR.cons (hN1 Cn T (fun _ => hE rfl _ But.upd ⟨_, upd_same⟩)) (HoR.never (fun σ H' h => by
        obtain ⟨_, _, h8⟩ := h
        omega) _))
      obtain ⟨t, ht, hq⟩ := q
      exact ⟨t, ht, hq _ _ _ ⟨rfl, rfl⟩ fun _ _ h => h⟩
  | g + 1 => by
    have ih := ok_node F hm hb B Cn T W N Pt g
    have NX : Cl P w K mg base (L2.CX P w) (g + 3) "node_value" ["thing", "depth", "met"] (spNode C g) := ⟨f, fd, ih, hm, F.kp, hb⟩
    refine F.okX scNode (fun vs H Q E h => ?_) (fun cdv A outer s H vs Q E hr h => ?_)
    · obtain ⟨v, t, m, ms, rfl, _⟩ := h
      rfl
    · obtain ⟨v, t, m, ms, rfl, hv, hm, hl, hQ, hE⟩ := h
      rw [bodyNode]
      have hr' : Room (g + 3) (XN P w K mg base f cdv A outer s H E).A := hr
      have ed : (9 - ((g + 1 : Nat) : Int)) = 8 - (g : Int) := by omega
      rw [ed]
      obtain ⟨ms1, e1⟩ : ∃ ms1 : List V, ms1 = ms ++ [.int (8 - (g : Int))] := ⟨_, rfl⟩
      obtain ⟨H1, eH⟩ : ∃ H1, H1 = upd H m (.lst ms1) := ⟨_, rfl⟩
      have l1 : ms1.length = ms.length + 1 := by
        rw [e1, List.length_append]
        rfl
      have hm1 : H1 m = some (.lst ms1) := by rw [eH]; exact upd_same
      have b1 : But m H H1 := by rw [eH]; exact But.upd
      have hv1 : NdAt H1 v t := hv.mono (DKeep.but b1 hm (by intro _ z; cases z))
      have a0 := hN0 (P := P) (w := w) (K := K) (mg := mg) (base := base) (f := f) (cdv := cdv) (A := A) (outer := outer) (s := s) (H0 := H) (E := E) (v := v) (d := 8 - (g : Int)) hm hl
      rw [← e1, ← eH] at a0
      have a1 := hN1 (P := P) (w := w) (base := base) (f := f) (cdv := cdv) (A := A) (outer := outer) (s := s) (H0 := H) (E := E) (v := v) (d := 8 - (g : Int)) (m := m) (H := H1) Cn T (fun h => by omega)
      have a2 := hN2 (P := P) (w := w) (base := base) (f := f) (cdv := cdv) (A := A) (outer := outer) (s := s) (H0 := H) (E := E) (v := v) (d := 8 - (g : Int)) B Cn T hm1 (fun h => hE (by rw [nv_succ, if_pos (by omega)]) H1 b1 ⟨_, hm1⟩)
      by_cases h61 : 61 < ms.length + 1
      · obtain ⟨t', ht, hq⟩ := HoR.cons a0 (HoR.cons a1 (HoR.cons a2 (HoR.never (R := Q) (fun σ H' h => by
          obtain ⟨_, _, h8⟩ := h
          omega) [stN 3, stN 4, stN 5, stN 6])))
        exact ⟨t', ht, hq _ _ _ ⟨rfl, rfl⟩ fun _ _ h => h⟩
      · rw [nv_succ, if_neg h61] at hQ hE
        cases t with
        | dir ks =>
          obtain ⟨a, rfl⟩ : ∃ a, v = .ref a := by
            cases hv
            exact ⟨_, rfl⟩
          dsimp only at hQ hE
          have a3 := hN3d (cdv := cdv) (A := A) (outer := outer) (s := s) (H0 := H) (E := E) (f := f) (x := ms1.length) B T Q N NX hr' (by omega) hv1 hm1 (by omega) (fun hall ks' n e D ms' H' hN hM hL hB => by
            rw [if_pos hall] at hQ
            rw [l1] at e
            rw [e] at hQ
            exact hQ (.dir ks') n rfl _ ms' H' (hN.mono (newIn_part (fun b o eb => by
              by_cases c : b = m
              · exact ⟨_, by rw [c]; exact hm1⟩
              · exact ⟨_, b1 _ _ c eb⟩) fun _ _ _ e => e)) hM hL (b1.trans hB)) (fun c H' hB hM => by
            refine hE ?_ H' (b1.trans hB) hM
            rcases c with c | c
            · rw [if_neg (by rw [c]; simp)]
            · rw [l1] at c
              rw [c]
              split <;> rfl)
          obtain ⟨t', ht, hq⟩ := HoR.cons a0 (HoR.cons a1 (HoR.cons a2 a3))
          exact ⟨t', ht, hq _ _ _ ⟨rfl, rfl⟩ fun _ _ h => h⟩
        | fil i =>
          obtain rfl : v = .int i := by
            cases hv
            rfl
          dsimp only at hQ hE
          have a3 := hN3n (P := P) (w := w) (K := K) (mg := mg) (base := base) (f := f) (cdv := cdv) (A := A) (outer := outer) (s := s) (H0 := H) (E := E) (d := 8 - (g : Int)) (m := m) (n := ms1.length) B hv1 (fun _ z => by cases z)
          have a4 := hN4 (cdv := cdv) (A := A) (outer := outer) (s := s) (H0 := H) (E := E) (f := f) (H := H1) (v := .int i) (t := .fil i) (d := 8 - (g : Int)) (m := m) B T W Pt (hr'.mono (by omega)) Q (fun i' z => by
            cases z
            refine ⟨rfl, fun H' sm => ?_⟩
            by_cases c : wholeB i = true
            · rw [if_pos c]
              rw [if_pos c] at hQ
              exact hQ _ _ rfl _ ms1 H' (.fil i) (sm _ _ hm1) l1 (b1.trans (Same.but m sm))
            · rw [if_neg c]
              rw [if_neg c] at hE
              exact hE rfl H' (b1.trans (Same.but m sm)) ⟨_, sm _ _ hm1⟩) (fun z h => by cases h) (fun _ z => by cases z)
          obtain ⟨t', ht, hq⟩ := HoR.cons a0 (HoR.cons a1 (HoR.cons a2 (HoR.cons a3 a4)))
          exact ⟨t', ht, hq _ _ _ ⟨rfl, rfl⟩ fun _ _ h => h⟩
        | lnk z =>
          obtain ⟨rfl, hz⟩ : v = .str z ∧ z.length ≤ 100000 := by
            cases hv with
            | lnk _ hz => exact ⟨rfl, hz⟩
          dsimp only at hQ hE
          have a3 := hN3n (P := P) (w := w) (K := K) (mg := mg) (base := base) (f := f) (cdv := cdv) (A := A) (outer := outer) (s := s) (H0 := H) (E := E) (d := 8 - (g : Int)) (m := m) (n := ms1.length) B hv1 (fun _ z => by cases z)
          have a4 := hN4 (cdv := cdv) (A := A) (outer := outer) (s := s) (H0 := H) (E := E) (f := f) (H := H1) (v := .str z) (t := .lnk z) (d := 8 - (g : Int)) (m := m) B T W Pt (hr'.mono (by omega)) Q (fun i' z => by cases z) (fun z' h => by
            cases h
            refine ⟨rfl, hz, fun H' sm => ?_⟩
            by_cases c : pathB z = true
            · rw [if_pos c]
              rw [if_pos c] at hQ
              exact hQ _ _ rfl _ ms1 H' (.lnk z hz) (sm _ _ hm1) l1 (b1.trans (Same.but m sm))
            · rw [if_neg c]
              rw [if_neg c] at hE
              exact hE rfl H' (b1.trans (Same.but m sm)) ⟨_, sm _ _ hm1⟩) (fun _ z => by cases z)
          obtain ⟨t', ht, hq⟩ := HoR.cons a0 (HoR.cons a1 (HoR.cons a2 (HoR.cons a3 a4)))
          exact ⟨t', ht, hq _ _ _ ⟨rfl, rfl⟩ fun _ _ h => h⟩
end
end Tx
set_option autoImplicit true
set_option Elab.async false
set_option linter.all false
set_option maxRecDepth 100000
set_option maxHeartbeats 4000000
namespace Tx
open PySem PySem.Spec PyProof.Rows L2 Cm
/-! ### nodes by their paths -/
mutual
def sz : Nd → Nat
  | .fil _ => 1
  | .lnk _ => 1
  | .dir ks => 1 + szs ks
def szs : List (Str × Nd) → Nat
  | [] => 0
  | (_, t) :: r => sz t + szs r
end
def kidL : List (Str × Nd) → Str → Option Nd
  | [], _ => none
  | (k, t) :: r, n => if k = n then some t else kidL r n
def kid : Nd → Str → Option Nd
  | .dir ks, n => kidL ks n
  | _, _ => none
def sub : Nd → List Str → Option Nd
  | t, [] => some t
  | t, n :: p => match kid t n with
    | some u => sub u p
    | none => none
theorem sub_append (t : Nd) : ∀ (p q : List Str), sub t (p ++ q) = match sub t p with | some u => sub u q | none => none
  | [], q => rfl
  | n :: p, q => by
    show (match kid t n with | some u => sub u (p ++ q) | none => none) = match (match kid t n with | some u => sub u p | none => none) with | some u => sub u q | none => none
    cases kid t n with
    | none => rfl
    | some u => exact sub_append u p q
theorem sub_snoc {t u : Nd} {p : List Str} {n : Str} (h : sub t p = some u) : sub t (p ++ [n]) = kid u n := by
  rw [sub_append, h]
  show (match kid u n with | some v => sub v [] | none => none) = kid u n
  cases kid u n <;> rfl
theorem kidL_mem : ∀ {ks : List (Str × Nd)} {n : Str} {t : Nd}, kidL ks n = some t → ∃ i : Nat, ks[i]? = some (n, t)
  | [], n, t, h => by cases h
  | (k, u) :: r, n, t, h => by
    unfold kidL at h
    split at h
    · rename_i e
      cases h
      exact ⟨0, by rw [e]; rfl⟩
    · obtain ⟨i, hi⟩ := kidL_mem h
      exact ⟨i + 1, hi⟩
theorem kidL_at : ∀ {ks : List (Str × Nd)} {i : Nat} {n : Str} {t : Nd}, (ks.map (·.1)).Nodup → ks[i]? = some (n, t) → kidL ks n = some t
  | [], i, n, t, _, h => by simp at h
  | (k, u) :: r, 0, n, t, hn, h => by
    have e : (k, u) = (n, t) := Option.some.inj h
    cases e
    unfold kidL
    rw [if_pos rfl]
  | (k, u) :: r, i + 1, n, t, hn, h => by
    have hn' : (k :: r.map (·.1)).Nodup := hn
    obtain ⟨h1, h2⟩ := List.nodup_cons.mp hn'
    have hr : r[i]? = some (n, t) := h
    unfold kidL
    rw [if_neg (fun z => h1 (by rw [z]; exact List.mem_map.mpr ⟨(n, t), List.mem_of_getElem? hr, rfl⟩))]
    exact kidL_at h2 hr
theorem szs_drop {ks : List (Str × Nd)} : ∀ {i : Nat} {p : Str × Nd}, ks[i]? = some p → szs (ks.drop i) = sz p.2 + szs (ks.drop (i + 1)) := by
  induction ks with
  | nil =>
    intro i p h
    simp at h
  | cons q r ih =>
    intro i p h
    cases i with
    | zero =>
      have e : q = p := Option.some.inj h
      subst e
      obtain ⟨a, b⟩ := q
      rfl
    | succ i => exact ih (i := i) h
/-- the weight below a path -/
def cw (t : Nd) (p : List Str) : Nat := match sub t p with
  | some (.dir ks) => szs ks
  | _ => 0
theorem sz_cw {t u : Nd} {p : List Str} (h : sub t p = some u) : sz u = cw t p + 1 := by
  unfold cw
  rw [h]
  cases u with
  | fil i => rfl
  | lnk z => rfl
  | dir ks =>
    show 1 + szs ks = szs ks + 1
    omega
mutual
theorem nv_sz : ∀ (g : Nat) (t : Nd) (n : Nat) (t' : Nd) (m : Nat), nv g t n = some (t', m) → m = n + sz t'
  | 0, t, n, t', m, h => by cases h
  | g + 1, t, n, t', m, h => by
    rw [nv_succ] at h
    split at h
    · cases h
    · cases t with
      | fil i =>
        dsimp only at h
        split at h
        · cases h
          rfl
        · cases h
      | lnk z =>
        dsimp only at h
        split at h
        · cases h
          rfl
        · cases h
      | dir ks =>
        dsimp only at h
        split at h
        · cases e : nvs (nv g) (sortK ks) (n + 1) with
          | none =>
            rw [e] at h
            cases h
          | some q =>
            obtain ⟨r, m1⟩ := q
            rw [e] at h
            cases h
            have z := nvs_sz g _ _ _ _ e
            show m = n + (1 + szs r)
            omega
        · cases h
theorem nvs_sz : ∀ (g : Nat) (S : List (Str × Nd)) (n : Nat) (r : List (Str × Nd)) (m : Nat), nvs (nv g) S n = some (r, m) → m = n + szs r
  | g, [], n, r, m, h => by
    cases h
    rfl
  | g, p :: S, n, r, m, h => by
    rw [nvs_cons] at h
    cases e : nv g p.2 n with
    | none =>
      rw [e] at h
      cases h
    | some q =>
      obtain ⟨t, m1⟩ := q
      rw [e] at h
      dsimp only at h
      cases e2 : nvs (nv g) S m1 with
      | none =>
        rw [e2] at h
        cases h
      | some q2 =>
        obtain ⟨r', m'⟩ := q2
        rw [e2] at h
        cases h
        have z1 := nv_sz g _ _ _ _ e
        have z2 := nvs_sz g _ _ _ _ e2
        show m = n + (sz t + szs r')
        omega
end
/-! ### the flat dict of a tree -/
def pk (p : List Str) : List Key := p.map Sum.inr
theorem pk_kV (p : List Str) : (pk p).map kV = p.map V.str := by
  unfold pk
  rw [List.map_map]
  rfl
theorem pk_inj : ∀ {p q : List Str}, pk p = pk q → p = q
  | [], [], _ => rfl
  | [], _ :: _, h => by cases h
  | _ :: _, [], h => by cases h
  | a :: p, b :: q, h => by
    have h' : (Sum.inr a : Key) :: pk p = Sum.inr b :: pk q := h
    injection h' with h1 h2
    rw [Sum.inr.inj h1, pk_inj h2]
def wsum (t : Nd) : List (Addr × List Str) → Nat
  | [] => 0
  | q :: r => cw t q.2 + wsum t r
theorem wsum_append (t : Nd) : ∀ a b : List (Addr × List Str), wsum t (a ++ b) = wsum t a + wsum t b
  | [], b => by
    show wsum t b = 0 + wsum t b
    omega
  | q :: a, b => by
    show cw t q.2 + wsum t (a ++ b) = cw t q.2 + wsum t a + wsum t b
    rw [wsum_append t a b]
    omega
/-- in the midst: HR the heap of the nodes, todo the paths whose names are still to come, now the path whose names come now with those that are left -/
structure Fl (HR : Hp) (t : Nd) (kvs : List (List Key × V)) (todo : List (Addr × List Str)) (now : List Str) (left : List (Str × Nd)) (M : Nat) : Prop where
  ok : ∀ k v, valV kvs k = some v → ∃ p u, k = pk p ∧ sub t p = some u ∧ NdAt HR v u
  td : ∀ q ∈ todo, ∃ v, valV kvs (pk q.2) = some v
  all : ∀ p u, sub t p = some u → (∃ v, valV kvs (pk p) = some v) ∨ (∃ q ∈ todo, ∃ r, r ≠ [] ∧ p = q.2 ++ r) ∨ ∃ e ∈ left, ∃ r, p = now ++ e.1 :: r
  nd : (kvs.map (·.1)).Nodup
  wt : kvs.length + wsum t todo + szs left ≤ 61
  ms : wsum t todo + todo.length + szs left ≤ M
theorem nd_put {kvs : List (List Key × V)} {k : List Key} (v : V) (hn : (kvs.map (·.1)).Nodup) : ((putK kvs k v).map (·.1)).Nodup := by
  cases e : valV kvs k with
  | none => exact nd_putK v hn e
  | some w =>
    have z : (putK kvs k v).map (·.1) = kvs.map (·.1) := by
      unfold putK
      split
      · rw [List.map_map]
        refine List.map_congr_left fun x _ => ?_
        show (if x.1 = k then (x.1, v) else x).1 = x.1
        split <;> rfl
      · rename_i c
        exfalso
        apply c
        unfold valV at e
        cases e2 : kvs.find? (fun q => decide (q.1 = k)) with
        | none =>
          rw [e2] at e
          cases e
        | some q => exact List.any_eq_true.mpr ⟨q, List.mem_of_find?_eq_some e2, (by have z := List.find?_some e2; exact z)⟩
    rw [z]
    exact hn
theorem Fl.start {HR : Hp} {t : Nd} {v : V} {b : Addr} (h : NdAt HR v t) (hz : sz t ≤ 61) : Fl HR t [([], v)] [(b, [])] [] [] (sz t) where
  ok := fun k w e => by
    by_cases c : ([] : List Key) = k
    · rw [valV_pos c] at e
      exact ⟨[], t, c.symm, rfl, Option.some.inj e ▸ h⟩
    · rw [valV_neg c] at e
      cases e
  td := fun q hq => by
    rw [List.mem_singleton] at hq
    subst hq
    exact ⟨v, valV_pos rfl⟩
  all := fun p u e => by
    cases p with
    | nil => exact .inl ⟨v, valV_pos rfl⟩
    | cons n r => exact .inr (.inl ⟨(b, []), List.mem_singleton.mpr rfl, n :: r, by simp, rfl⟩)
  nd := by simp
  wt := by
    have e : sz t = cw t [] + 1 := sz_cw rfl
    show 1 + (cw t [] + 0) + 0 ≤ 61
    omega
  ms := by
    have e : sz t = cw t [] + 1 := sz_cw rfl
    show cw t [] + 0 + 1 + 0 ≤ sz t
    omega
theorem Fl.pop {HR : Hp} {t u : Nd} {kvs : List (List Key × V)} {r : List (Addr × List Str)} {q : Addr × List Str} {now : List Str} {M : Nat} (h : Fl HR t kvs (r ++ [q]) now [] M) (hu : sub t q.2 = some u) (ks : List (Str × Nd)) (hk : u = .dir ks ∨ (ks = [] ∧ ∀ ks, u ≠ .dir ks)) : Fl HR t kvs r q.2 ks (M - 1) ∧ 0 < M where
  left := {
    ok := h.ok
    td := fun p hp => h.td p (List.mem_append_left _ hp)
    all := fun p w e => by
      rcases h.all p w e with c | ⟨q1, h1, r1, n1, e1⟩ | ⟨x, hx, _⟩
      · exact .inl c
      · rcases List.mem_append.mp h1 with h2 | h2
        · exact .inr (.inl ⟨q1, h2, r1, n1, e1⟩)
        · rw [List.mem_singleton] at h2
          subst h2
          cases r1 with
          | nil => exact absurd rfl n1
          | cons n r1 =>
            rw [e1, sub_append, hu] at e
            have e2 : (match kid u n with | some v => sub v r1 | none => none) = some w := e
            rcases hk with hk | ⟨_, hk⟩
            · subst hk
              have e3 : (match kidL ks n with | some v => sub v r1 | none => none) = some w := e2
              cases ek : kidL ks n with
              | none =>
                rw [ek] at e3
                cases e3
              | some v =>
                obtain ⟨i, hi⟩ := kidL_mem ek
                exact .inr (.inr ⟨(n, v), List.mem_of_getElem? hi, r1, e1⟩)
            · exfalso
              cases u with
              | fil i => cases e2
              | lnk z => cases e2
              | dir ks' => exact hk ks' rfl
      · cases hx
    nd := h.nd
    wt := by
      have z := h.wt
      rw [wsum_append] at z
      have z2 : wsum t [q] = cw t q.2 + 0 := rfl
      have z3 : szs ([] : List (Str × Nd)) = 0 := rfl
      have e := sz_cw hu
      rcases hk with hk | ⟨hk, _⟩
      · subst hk
        have e2 : sz (.dir ks) = 1 + szs ks := rfl
        omega
      · subst hk
        omega
    ms := by
      have z := h.ms
      rw [wsum_append, List.length_append] at z
      have z2 : wsum t [q] = cw t q.2 + 0 := rfl
      have z3 : szs ([] : List (Str × Nd)) = 0 := rfl
      have z4 : [q].length = 1 := rfl
      have e := sz_cw hu
      rcases hk with hk | ⟨hk, _⟩
      · subst hk
        have e2 : sz (.dir ks) = 1 + szs ks := rfl
        omega
      · subst hk
        omega }
  right := by
    have z := h.ms
    rw [List.length_append] at z
    have z4 : [q].length = 1 := rfl
    omega
theorem Fl.step {HR : Hp} {t : Nd} {kvs : List (List Key × V)} {todo : List (Addr × List Str)} {now : List Str} {e : Str × Nd} {left : List (Str × Nd)} {M : Nat} (h : Fl HR t kvs todo now (e :: left) M) {v : V} (b : Addr) (hv : NdAt HR v e.2) (hu : sub t (now ++ [e.1]) = some e.2) :
    Fl HR t (putK kvs (pk (now ++ [e.1])) v) (todo ++ [(b, now ++ [e.1])]) now left M where
  ok := fun k w hw => by
    rw [valV_put] at hw
    split at hw
    · rename_i c
      exact ⟨_, _, c, hu, Option.some.inj hw ▸ hv⟩
    · exact h.ok k w hw
  td := fun q hq => by
    rw [valV_put]
    rcases List.mem_append.mp hq with h1 | h1
    · obtain ⟨w, hw⟩ := h.td q h1
      split
      · exact ⟨v, rfl⟩
      · exact ⟨w, hw⟩
    · rw [List.mem_singleton] at h1
      subst h1
      rw [if_pos rfl]
      exact ⟨v, rfl⟩
  all := fun p u e0 => by
    rcases h.all p u e0 with ⟨w, c⟩ | ⟨q1, h1, r1, n1, e1⟩ | ⟨x, hx, r, er⟩
    · refine .inl ?_
      rw [valV_put]
      split
      · exact ⟨v, rfl⟩
      · exact ⟨w, c⟩
    · exact .inr (.inl ⟨q1, List.mem_append_left _ h1, r1, n1, e1⟩)
    · rcases List.mem_cons.mp hx with c | c
      · subst c
        cases r with
        | nil =>
          refine .inl ?_
          rw [valV_put, er, if_pos rfl]
          exact ⟨v, rfl⟩
        | cons n r =>
          refine .inr (.inl ⟨(b, now ++ [x.1]), List.mem_append_right _ (List.mem_singleton.mpr rfl), n :: r, by simp, ?_⟩)
          rw [er]
          simp
      · exact .inr (.inr ⟨x, c, r, er⟩)
  nd := nd_put v h.nd
  wt := by
    have z := h.wt
    have z1 := DSub.putK_len kvs (pk (now ++ [e.1])) v
    rw [wsum_append]
    have z2 : wsum t [(b, now ++ [e.1])] = cw t (now ++ [e.1]) + 0 := rfl
    have z3 : szs (e :: left) = sz e.2 + szs left := by
      obtain ⟨a, b⟩ := e
      rfl
    have z4 := sz_cw hu
    omega
  ms := by
    have z := h.ms
    rw [wsum_append, List.length_append]
    have z2 : wsum t [(b, now ++ [e.1])] = cw t (now ++ [e.1]) + 0 := rfl
    have z5 : [(b, now ++ [e.1])].length = 1 := rfl
    have z3 : szs (e :: left) = sz e.2 + szs left := by
      obtain ⟨a, b⟩ := e
      rfl
    have z4 := sz_cw hu
    omega
/-- a tree's object: its nodes by their paths -/
structure FlatD (HR : Hp) (t : Nd) (kvs : List (List Key × V)) : Prop where
  ok : ∀ k v, valV kvs k = some v → ∃ p u, k = pk p ∧ sub t p = some u ∧ NdAt HR v u
  all : ∀ p u, sub t p = some u → ∃ v, valV kvs (pk p) = some v
  nd : (kvs.map (·.1)).Nodup
  ln : kvs.length ≤ 61
theorem Fl.flat {HR : Hp} {t : Nd} {kvs : List (List Key × V)} {now : List Str} {M : Nat} (h : Fl HR t kvs [] now [] M) : FlatD HR t kvs where
  ok := h.ok
  all := fun p u e => by
    rcases h.all p u e with c | ⟨q1, h1, _⟩ | ⟨x, hx, _⟩
    · exact c
    · cases h1
    · cases hx
  nd := h.nd
  ln := by
    have := h.wt
    omega
theorem FlatD.get {HR : Hp} {t u : Nd} {kvs : List (List Key × V)} {p : List Str} (h : FlatD HR t kvs) (e : sub t p = some u) : ∃ v, valV kvs (pk p) = some v ∧ NdAt HR v u := by
  obtain ⟨v, hv⟩ := h.all p u e
  obtain ⟨p', u', ep, eu, hn⟩ := h.ok _ v hv
  cases pk_inj ep
  rw [e] at eu
  cases eu
  exact ⟨v, hv, hn⟩
theorem FlatD.no {HR : Hp} {t : Nd} {kvs : List (List Key × V)} {p : List Str} (h : FlatD HR t kvs) (e : sub t p = none) : valV kvs (pk p) = none := by
  cases hv : valV kvs (pk p) with
  | none => rfl
  | some v =>
    obtain ⟨p', u', ep, eu, hn⟩ := h.ok _ v hv
    cases pk_inj ep
    rw [e] at eu
    cases eu
theorem FlatD.mono {H H' : Hp} {t : Nd} {kvs : List (List Key × V)} (h : FlatD H t kvs) (k : DKeep H H') : FlatD H' t kvs := ⟨fun x v e => let ⟨p, u, a, b, c⟩ := h.ok x v e; ⟨p, u, a, b, c.mono k⟩, h.all, h.nd, h.ln⟩
end Tx
set_option autoImplicit true
set_option Elab.async false
set_option linter.all false
set_option maxRecDepth 100000
set_option maxHeartbeats 8000000
namespace Tx
open PySem PySem.Spec PyProof.Rows L2 Cm
abbrev sInit : Stmt := inClass sTree 0
abbrev nI : List Str := ["self", "top", "todo", "at", "name"]
theorem scInit : FnScope nI ["self", "top"] (defScope sInit) := ⟨rfl, rfl, rfl, by decide +kernel, rfl, by decide +kernel, by decide +kernel⟩
def tI (i : Nat) : Stmt := (defBody sInit).getD i (.Pass ⟨0, 0, 0, 0⟩)
theorem bodyInit : defBody sInit = [tI 0, tI 1, tI 2, tI 3] := rfl
def whB (s : Stmt) (i : Nat) : Stmt := match s with | .While _ b _ _ => b.getD i (.Pass ⟨0, 0, 0, 0⟩) | _ => .Pass ⟨0, 0, 0, 0⟩
def ifB (s : Stmt) (i : Nat) : Stmt := match s with | .If _ b _ _ => b.getD i (.Pass ⟨0, 0, 0, 0⟩) | _ => .Pass ⟨0, 0, 0, 0⟩
def foB (s : Stmt) (i : Nat) : Stmt := match s with | .For _ _ b _ _ => b.getD i (.Pass ⟨0, 0, 0, 0⟩) | _ => .Pass ⟨0, 0, 0, 0⟩
def tIf : Stmt := whB (tI 3) 1
def tFo : Stmt := ifB tIf 0
/-- the class Tree -/
structure Tr (K : PySem.W.Frag) (mg : Str → Option Value) (C : Addr) : Prop where
  cl : Cls K C
  nN : NoAttr K C "nodes"
  mgC : mg "Tree" = some (.ref C)
def fl (N : Addr) : List (Str × V) := putF "nodes" (.ref N) []
theorem fl_nodes (N : Addr) : (fl N).lookup ("nodes" : Str) = some (.ref N) := by
  unfold fl
  rw [lookup_putF, if_pos rfl]
theorem fl_no (N : Addr) {m : Str} (h : ¬ m = "nodes") : (fl N).lookup m = none := by
  unfold fl
  rw [lookup_putF, if_neg h]
  rfl
/-- t + (y,) -/
theorem cat1 {K : PySem.W.Frag} {a p : Addr} {xs : List V} {y : V} {H : Hp} {Q : VK} (ha : H a = some (.tup xs)) (hl : xs.length ≤ 100) (hp : H p = none) (q : ∀ b H2, Same H H2 → H2 b = some (.tup (xs ++ [y])) → Q (.ref b) H2) :
    rCatA K (.ref a) (.ref p) (upd H p (.tup [y])) Q := by
  have sm : Same H (upd H p (.tup [y])) := same_new hp
  refine ⟨a, p, xs, [y], rfl, rfl, SqT.of (sm _ _ ha), SqT.of upd_same, Nat.le_of_lt (small1000 (by show xs.length + 1 ≤ 1000; omega)), fun e => q p _ sm (by rw [e]; exact upd_same), fun _ e => (nomatch e), fun _ _ p2 hp2 => q p2 _ (fun b o e => ?_) upd_same⟩
  rw [upd_ne (ne_of_none (sm _ _ e) hp2)]
  exact sm _ _ e
theorem szs_mem : ∀ {ks : List (Str × Nd)} {i : Nat} {p : Str × Nd}, ks[i]? = some p → sz p.2 ≤ szs ks
  | [], i, p, h => by simp at h
  | (k, u) :: r, 0, p, h => by
    have e : (k, u) = p := Option.some.inj h
    subst e
    show sz u ≤ sz u + szs r
    omega
  | (k, u) :: r, i + 1, p, h => by
    have z := szs_mem (ks := r) (i := i) h
    show sz p.2 ≤ sz u + szs r
    omega
theorem sub_len : ∀ {p : List Str} {t u : Nd}, sub t p = some u → p.length + sz u ≤ sz t
  | [], t, u, h => by
    cases h
    show 0 + sz t ≤ sz t
    omega
  | n :: p, t, u, h => by
    have h' : (match kid t n with | some u => sub u p | none => none) = some u := h
    cases e : kid t n with
    | none =>
      rw [e] at h'
      cases h'
    | some v =>
      rw [e] at h'
      have ih := sub_len (p := p) h'
      cases t with
      | fil i => cases e
      | lnk z => cases e
      | dir ks =>
        obtain ⟨i, hi⟩ := kidL_mem (show kidL ks n = some v from e)
        have z := szs_mem hi
        have z2 : sz (.dir ks) = 1 + szs ks := rfl
        show p.length + 1 + sz u ≤ sz (.dir ks)
        dsimp only at z
        omega
/-- the heap in __init__'s loops: H at the entry, HR the new nodes -/
structure LS (H HR : Hp) (CT x N L dx : Addr) (t : Nd) (H' : Hp) (kvs : List (List Key × V)) (todo : List (Addr × List Str)) : Prop where
  ox : H' x = some (.ins CT dx (fl N))
  on : H' N = some (.dT kvs)
  ol : H' L = some (.lst (todo.map fun q => V.ref q.1))
  ot : ∀ q ∈ todo, H' q.1 = some (.tup (q.2.map V.str))
  kp : But x H H'
/-- what never changes -/
structure LC (H HR : Hp) (x N L : Addr) (t : Nd) : Prop where
  hx : ∃ o, H x = some o
  hN : H N = none
  hL : H L = none
  hR : ∀ b o, HR b = some o → H b = none
  nR : ∀ kv, HR N ≠ some (.dK kv)
  lR : ∀ kv, HR L ≠ some (.dK kv)
  sz : sz t ≤ 61
section
variable {P : Program} {w : World} {K : PySem.W.Frag} {mg : Str → Option Value} {base : Heap} {f C CT : Addr} {cdv : Value} {A : Around} {outer : List Env} {s : Shared} {H0 : Hp} {E : XK}
abbrev XI (P : Program) (w : World) (K : PySem.W.Frag) (mg : Str → Option Value) (base : Heap) (f : Addr) (cdv : Value) (A : Around) (outer : List Env) (s : Shared) (H0 : Hp) (E : XK) : Cx := cxOf (L2.CX P w) P w K mg base nI "Tree.__init__" (defScope sInit) f cdv A outer s H0 E
def sI (x L : Addr) (v : V) (a n : Option V) : L2.St := [some (.ref x), some v, some (.ref L), a, n]
/-- for name in self.nodes[at]: both lines -/
theorem hFB (T : Tr K mg CT) (hr : Room 1 (XI P w K mg base f cdv A outer s H0 E).A) :
    ∃ tb, PSs (XI P w K mg base f cdv A outer s H0 E) [foB tFo 0, foB tFo 1] tb ∧ ∀ (D : Ends) {H HR H1 : Hp} {x N L dx d a : Addr} {v : V} {t : Nd} {now : List Str} {od : Obj} {kvd : List (Key × V)} {u : V} {e : Str × Nd} {left : List (Str × Nd)} {M : Nat} {kvs : List (List Key × V)} {todo : List (Addr × List Str)}, LC H HR x N L t → M ≤ 61 →
      valV kvd (Sum.inr e.1 : Key) = some u → NdAt HR u e.2 → sub t (now ++ [e.1]) = some e.2 → LS H HR CT x N L dx t H1 kvs todo → Fl HR t kvs todo now (e :: left) M → H1 d = some (.frz od (.dK kvd)) → H1 a = some (.tup (now.map V.str)) → valV kvs (pk now) = some (.ref d) →
      (∀ b kv, b ≠ d → HR b = some (.dK kv) → H1 b = some (.dK kv)) → (∀ H' kvs todo, LS H HR CT x N L dx t H' kvs todo → Fl HR t kvs todo now left M → H' d = some (.frz od (.dK kvd)) → H' a = some (.tup (now.map V.str)) → valV kvs (pk now) = some (.ref d) → (∀ b kv, b ≠ d → HR b = some (.dK kv) → H' b = some (.dK kv)) → D.nx (sI x L v (some (.ref a)) (some (.str e.1))) H') →
      tb D (sI x L v (some (.ref a)) (some (.str e.1))) H1 := by
  have hu1 : (XI P w K mg base f cdv A outer s H0 E).A.units + 1 < cLine := by
    have := hr.units
    omega
  refine ⟨_, pss_cons (ps_dput hu1 (pe_fld (pv 0) rfl) (pe_op op_catA (pv 3) (pe_tup (pa_cons (pv 4) pa_nil))) (pe_dget hu1 (pe_dget hu1 (pe_fld (pv 0) rfl) (pv 3) (fun _ _ => rfl)) (pv 4) (fun _ _ => rfl)) rfl)
    (pss_one (ps_expr (pe_bm PySem.F.plainAttrs_list PySem.F.slot_list_append PySem.F.type_list_append mt_append (pv 2) (pa_cons (pe_op op_catA (pv 3) (pe_tup (pa_cons (pv 4) pa_nil))) pa_nil)))), ?_⟩
  intro D H HR H1 x N L dx d a v t now od kvd u e left M kvs todo Lc hM hg hv hu S F hd ha hn hk q
  have hnl : now.length ≤ 61 := by
    have z1 := sub_len hu
    rw [List.length_append] at z1
    have := Lc.sz
    omega
  have g1 : DGet H1 N (.ref a) (some (.ref d)) := by
    have z := DGet.t (k := pk now) S.on (by rw [pk_kV]; exact ha)
    rw [hn] at z
    exact z
  have g2 : DGet H1 d (.str e.1) (some u) := by
    refine .inl ⟨kvd, Sum.inr e.1, .inr ⟨od, hd⟩, rfl, hg.symm⟩
  refine ⟨_, rfl, x, CT, dx, fl N, .ref N, rfl, S.ox, T.cl, T.nN, fl_nodes N, _, rfl, N, .ref d, rfl, g1, _, rfl, d, u, rfl, g2, ?_⟩
  refine ⟨_, rfl, x, CT, dx, fl N, .ref N, rfl, S.ox, T.cl, T.nN, fl_nodes N, _, rfl, _, rfl, (by show 1 ≤ sizeLine; decide +kernel), fun p hp => ?_⟩
  refine cat1 ha (by rw [List.length_map]; omega) hp fun b H2 s2 hb => ?_
  have hb' : H2 b = some (.tup ((pk (now ++ [e.1])).map kV)) := by
    rw [pk_kV, List.map_append]
    exact hb
  have hkl : kvs.length ≤ 61 := by
    have := F.wt
    omega
  refine ⟨N, _, rfl, DPut.t (s2 _ _ S.on) hb' (small1000 (by omega)), ?_⟩
  have nNL : N ≠ L := ne_of S.on S.ol (by intro z; cases z)
  have nNx : N ≠ x := ne_of S.on S.ox (by intro z; cases z)
  have nLx : L ≠ x := ne_of S.ol S.ox (by intro z; cases z)
  have naN : a ≠ N := ne_of ha S.on (by intro z; cases z)
  have naL : a ≠ L := ne_of ha S.ol (by intro z; cases z)
  have ndN : d ≠ N := ne_of hd S.on (by intro z; cases z)
  have ndL : d ≠ L := ne_of hd S.ol (by intro z; cases z)
  obtain ⟨H3, e3⟩ : ∃ H3, H3 = upd H2 N (.dT (putK kvs (pk (now ++ [e.1])) u)) := ⟨_, rfl⟩
  rw [← e3]
  have st3 : ∀ b o, H1 b = some o → b ≠ N → H3 b = some o := fun b o h n => by
    rw [e3, upd_ne n]
    exact s2 _ _ h
  have hL3 : H3 L = some (.lst (todo.map fun q => V.ref q.1)) := st3 _ _ S.ol nNL.symm
  have hN3 : H3 N = some (.dT (putK kvs (pk (now ++ [e.1])) u)) := by rw [e3]; exact upd_same
  have htl : todo.length ≤ 200 := by
    have := F.ms
    omega
  refine ⟨_, rfl, .inl ⟨rfl, _, SqL.of hL3⟩, _, rfl, _, rfl, (by show 1 ≤ sizeLine; decide +kernel), fun p3 hp3 => ?_⟩
  refine cat1 (st3 _ _ ha naN) (by rw [List.length_map]; omega) hp3 fun b2 H4 s4 hb2 => ?_
  refine ⟨L, _, _, rfl, rfl, s4 _ _ hL3, small1000 (by rw [List.length_map]; omega), ?_⟩
  obtain ⟨H5, e5⟩ : ∃ H5, H5 = upd H4 L (.lst ((todo.map fun q => V.ref q.1) ++ [V.ref b2])) := ⟨_, rfl⟩
  have st5 : ∀ b o, H1 b = some o → b ≠ N → b ≠ L → H5 b = some o := fun b o h n n2 => by
    rw [e5, upd_ne n2]
    exact s4 _ _ (st3 b o h n)
  rw [← e5]
  have b2L : b2 ≠ L := ne_of hb2 (s4 _ _ hL3) (by intro z; cases z)
  refine q H5 _ (todo ++ [(b2, now ++ [e.1])]) ⟨st5 _ _ S.ox nNx.symm nLx.symm, ?_, ?_, ?_, ?_⟩ (F.step b2 hv hu) (st5 _ _ hd ndN ndL) (st5 _ _ ha naN naL) ?_ ?_
  · rw [e5, upd_ne nNL]
    exact s4 _ _ hN3
  · rw [e5, upd_same, List.map_append]
    rfl
  · intro q0 hq0
    rcases List.mem_append.mp hq0 with h1 | h1
    · exact st5 _ _ (S.ot q0 h1) (ne_of (S.ot q0 h1) S.on (by intro z; cases z)) (ne_of (S.ot q0 h1) S.ol (by intro z; cases z))
    · rw [List.mem_singleton] at h1
      subst h1
      rw [e5]
      show upd H4 L _ b2 = some (.tup ((now ++ [e.1]).map V.str))
      rw [upd_ne b2L, hb2, List.map_append]
      rfl
  · intro b o nb hb0
    have nN : b ≠ N := fun z => by
      rw [z, Lc.hN] at hb0
      cases hb0
    have nL : b ≠ L := fun z => by
      rw [z, Lc.hL] at hb0
      cases hb0
    exact st5 _ _ (S.kp b o nb hb0) nN nL
  · rw [valV_put, if_neg, hn]
    intro z
    have z2 := pk_inj z
    have z3 := congrArg List.length z2
    rw [List.length_append] at z3
    have z4 : [e.1].length = 1 := rfl
    omega
  · intro b kv nb hb0
    exact st5 _ _ (hk b kv nb hb0) (fun z => Lc.nR kv (z ▸ hb0)) (fun z => Lc.lR kv (z ▸ hb0))
/-- the for loop -/
theorem hFo (T : Tr K mg CT) (hr : Room 1 (XI P w K mg base f cdv A outer s H0 E).A) :
    ∃ tf, PS (XI P w K mg base f cdv A outer s H0 E) tFo tf ∧ ∀ (D : Ends) {H HR H1 : Hp} {x N L dx d a : Addr} {v : V} {n : Option V} {t : Nd} {now : List Str} {ks : List (Str × Nd)} {M : Nat} {kvs : List (List Key × V)} {todo : List (Addr × List Str)}, LC H HR x N L t → M ≤ 61 →
      NdAt HR (.ref d) (.dir ks) → sub t now = some (.dir ks) → LS H HR CT x N L dx t H1 kvs todo → Fl HR t kvs todo now ks M → H1 a = some (.tup (now.map V.str)) → valV kvs (pk now) = some (.ref d) → DKeep HR H1 →
      (∀ n' H' kvs todo, LS H HR CT x N L dx t H' kvs todo → Fl HR t kvs todo now [] M → DKeep HR H' → D.nx (sI x L v (some (.ref a)) n') H') →
      tf D (sI x L v (some (.ref a)) n) H1 := by
  have hu1 : (XI P w K mg base f cdv A outer s H0 E).A.units + 1 < cLine := by
    have := hr.units
    omega
  obtain ⟨tb, hb, rb⟩ := hFB (P := P) (w := w) (base := base) (f := f) (cdv := cdv) (A := A) (outer := outer) (s := s) (H0 := H0) (E := E) T hr
  refine ⟨_, ps_lock (ps_for (passes_of rfl) rfl (pi_keys (pe_dget hu1 (pe_fld (pv 0) rfl) (pv 3) (fun _ _ => rfl))) (pg_name (i := 4) scInit.nd rfl (Or.inl rfl)) hb), ?_⟩
  intro D H HR H1 x N L dx d a v n t now ks M kvs todo Lc hM hnd hsub S F ha hn hk q
  cases hnd with
  | @dir _ kvd _ h hkk hnn hl hz hv =>
  have h1 : H1 d = some (.dK kvd) := hk _ _ h
  refine ⟨d, .dK kvd, h1, True.intro, fun od => ?_⟩
  have nxd : x ≠ d := ne_of S.ox h1 (by intro z; cases z)
  have nNd : N ≠ d := ne_of S.on h1 (by intro z; cases z)
  have nLd : L ≠ d := ne_of S.ol h1 (by intro z; cases z)
  have nad : a ≠ d := ne_of ha h1 (by intro z; cases z)
  have hHd : H d = none := Lc.hR _ _ h
  obtain ⟨H2, e2⟩ : ∃ H2, H2 = upd H1 d (.frz od (.dK kvd)) := ⟨_, rfl⟩
  have st2 : ∀ b o, H1 b = some o → b ≠ d → H2 b = some o := fun b o hb n => by
    rw [e2, upd_ne n]
    exact hb
  rw [← e2]
  have S2 : LS H HR CT x N L dx t H2 kvs todo := ⟨st2 _ _ S.ox nxd, st2 _ _ S.on nNd, st2 _ _ S.ol nLd, fun q0 h0 => st2 _ _ (S.ot q0 h0) (ne_of (S.ot q0 h0) h1 (by intro z; cases z)), fun b o nb hb0 => st2 _ _ (S.kp b o nb hb0) (fun z => by
    rw [z, hHd] at hb0
    cases hb0)⟩
  have ha2 := st2 _ _ ha nad
  have hd2 : H2 d = some (.frz od (.dK kvd)) := by rw [e2]; exact upd_same
  have hkn : (kvd.map (·.1)).Nodup := by
    have z : kvd.map (·.1) = (ks.map (·.1)).map (Sum.inr : Str → Key) := by
      rw [List.map_map]
      exact hkk
    rw [z]
    unfold List.Nodup at hnn ⊢
    rw [List.pairwise_map]
    exact hnn.imp fun h e => h (Sum.inr.inj e)
  have hlen : kvd.length = ks.length := by
    have e := congrArg List.length hkk
    rw [List.length_map, List.length_map] at e
    exact e
  have g1 : DGet H2 N (.ref a) (some (.ref d)) := by
    have z := DGet.t (k := pk now) S2.on (by rw [pk_kV]; exact ha2)
    rw [hn] at z
    exact z
  refine ⟨_, rfl, x, CT, dx, fl N, .ref N, rfl, S2.ox, T.cl, T.nN, fl_nodes N, _, rfl, N, .ref d, rfl, g1, d, od, rfl, .inl ⟨kvd, hd2, for_it walk_keys (fun i σ H3 => ∃ n' kvs' todo', σ = sI x L v (some (.ref a)) n' ∧ LS H HR CT x N L dx t H3 kvs' todo' ∧ Fl HR t kvs' todo' now (ks.drop i) M ∧ H3 d = some (.frz od (.dK kvd)) ∧ H3 a = some (.tup (now.map V.str)) ∧ valV kvs' (pk now) = some (.ref d) ∧ ∀ b kv, b ≠ d → HR b = some (.dK kv) → H3 b = some (.dK kv)) ?_ ?_ ?_ ?_⟩⟩
  · exact ⟨n, kvs, todo, rfl, S2, F, hd2, ha2, hn, fun b kv nb hb0 => st2 _ _ (hk _ _ hb0) nb⟩
  · rintro i σ H3 _ ⟨_, _, _, _, _, _, h3, _⟩
    exact h3
  · rintro i y σ H3 H4 hi ⟨n', kvs', todo', rfl, S3, F3, hd3, ha3, hn3, hk3⟩ ⟨rfl, k, u, hku, rfl⟩
    have hi' : i < ks.length := by omega
    obtain ⟨e, he⟩ : ∃ e, ks[i]? = some e := ⟨_, List.getElem?_eq_getElem hi'⟩
    have ek : k = Sum.inr e.1 := by
      have e1 : (kvd.map (·.1))[i]? = some k := by rw [List.getElem?_map, hku]; rfl
      rw [hkk, List.getElem?_map, he] at e1
      exact (Option.some.inj e1).symm
    subst ek
    have ed : ks.drop i = e :: ks.drop (i + 1) := by
      rw [List.drop_eq_getElem_cons hi']
      congr 1
      rw [List.getElem?_eq_getElem hi'] at he
      exact Option.some.inj he
    rw [ed] at F3
    refine rb _ Lc hM (valV_at hkn hku) (hv i _ e hku he) ?_ S3 F3 hd3 ha3 hn3 hk3 fun H5 kvs5 todo5 S5 F5 hd5 ha5 hn5 hk5 => ⟨_, kvs5, todo5, rfl, S5, F5, hd5, ha5, hn5, hk5⟩
    rw [sub_snoc hsub]
    exact kidL_at (i := i) hnn he
  · rintro σ H3 ⟨n', kvs', todo', rfl, S3, F3, hd3, ha3, hn3, hk3⟩
    refine ⟨hd3, ?_⟩
    have ed : ks.drop kvd.length = [] := List.drop_eq_nil_of_le (by omega)
    rw [ed] at F3
    have st4 : ∀ b o, H3 b = some o → b ≠ d → upd H3 d (.dK kvd) b = some o := fun b o hb n => by
      rw [upd_ne n]
      exact hb
    refine q n' _ kvs' todo' ⟨st4 _ _ S3.ox nxd, st4 _ _ S3.on nNd, st4 _ _ S3.ol nLd, fun q0 h0 => st4 _ _ (S3.ot q0 h0) (ne_of (S3.ot q0 h0) hd3 (by intro z; cases z)), fun b o nb hb0 => st4 _ _ (S3.kp b o nb hb0) (fun z => by
      rw [z, hHd] at hb0
      cases hb0)⟩ F3 fun b kv hb0 => ?_
    by_cases c : b = d
    · subst c
      rw [h] at hb0
      cases hb0
      exact upd_same
    · exact st4 _ _ (hk3 b kv c hb0) c
end
end Tx
set_option autoImplicit true
set_option Elab.async false
set_option linter.all false
set_option maxRecDepth 100000
set_option maxHeartbeats 8000000
namespace Tx
open PySem PySem.Spec PyProof.Rows L2 Cm
section
variable {P : Program} {w : World} {K : PySem.W.Frag} {mg : Str → Option Value} {base : Heap} {f C CT : Addr} {fd : FuncData} {cdv : Value} {A : Around} {outer : List Env} {s : Shared} {H0 : Hp} {E : XK}
theorem hWh (B : Bi mg) (T : Tr K mg CT) (hr : Room 1 (XI P w K mg base f cdv A outer s H0 E).A) :
    ∃ tw, PS (XI P w K mg base f cdv A outer s H0 E) (tI 3) tw ∧ ∀ (D : Ends) {H HR H1 : Hp} {x N L dx : Addr} {v : V} {a n : Option V} {t : Nd} {now : List Str} {M : Nat} {kvs : List (List Key × V)} {todo : List (Addr × List Str)}, LC H HR x N L t → M ≤ 61 →
      LS H HR CT x N L dx t H1 kvs todo → Fl HR t kvs todo now [] M → DKeep HR H1 →
      (∀ σ H' kvs, LS H HR CT x N L dx t H' kvs [] → FlatD HR t kvs → DKeep HR H' → D.nx σ H') →
      tw D (sI x L v a n) H1 := by
  have hu1 : (XI P w K mg base f cdv A outer s H0 E).A.units + 1 < cLine := by
    have := hr.units
    omega
  obtain ⟨tf, hf, rf⟩ := hFo (P := P) (w := w) (base := base) (f := f) (cdv := cdv) (A := A) (outer := outer) (s := s) (H0 := H0) (E := E) T hr
  refine ⟨_, ps_while (passes_of rfl) (pt_truth (pv 2) (fun _ => rfl)) (pss_cons (ps_set (i := 3) scInit.nd rfl (Or.inl rfl) (pe_bm0 PySem.F.plainAttrs_list PySem.F.slot_list_pop PySem.F.type_list_pop mt_pop (pv 2)))
    (pss_one (ps_if (pt_val (pe_callB call_isi (by rfl) B.isin (by decide +kernel) (pa_cons (pe_dget hu1 (pe_fld (pv 0) rfl) (pv 3) (fun _ _ => rfl)) (pa_cons (pe_bltn (v := .ty "dict") (by rfl) B.dict (by decide +kernel) rfl) pa_nil)))) (pss_one hf) pss_nil))), ?_⟩
  intro D H HR H1 x N L dx v a n t now M kvs todo Lc hM S F hk q
  refine ⟨fun m σ H' => ∃ a n kvs todo now, σ = sI x L v a n ∧ LS H HR CT x N L dx t H' kvs todo ∧ Fl HR t kvs todo now [] m ∧ DKeep HR H' ∧ m ≤ 61, ⟨M, a, n, kvs, todo, now, rfl, S, F, hk, hM⟩, ?_⟩
  clear S F hk hM
  rintro m σ H2 ⟨a, n, kvs, todo, now, rfl, S, F, hk, hM⟩
  rcases List.eq_nil_or_concat todo with e | ⟨r, q0, e⟩
  · subst e
    exact ⟨_, rfl, false, .inl ⟨_, SqL.of S.ol, rfl⟩, iteF (q _ _ kvs S F.flat hk)⟩
  · rw [List.concat_eq_append] at e
    subst e
    have el : (r ++ [q0]).map (fun q => V.ref q.1) = r.map (fun q => V.ref q.1) ++ [V.ref q0.1] := by
      rw [List.map_append]
      rfl
    refine ⟨_, rfl, true, .inl ⟨_, SqL.of S.ol, by rw [el]; simp⟩, iteT ⟨fun σ' H' => ∃ m', m' < m ∧ ∃ a n kvs todo now, σ' = sI x L v a n ∧ LS H HR CT x N L dx t H' kvs todo ∧ Fl HR t kvs todo now [] m' ∧ DKeep HR H' ∧ m' ≤ 61, fun _ _ h => h, ?_⟩⟩
    have hL := S.ol
    rw [el] at hL
    refine ⟨_, rfl, .inl ⟨rfl, _, SqL.of S.ol⟩, L, _, .ref q0.1, rfl, rfl, hL, by simp, ?_⟩
    have ed : (r.map (fun q => V.ref q.1) ++ [V.ref q0.1]).dropLast = r.map (fun q => V.ref q.1) := by simp
    rw [ed]
    obtain ⟨H3, e3⟩ : ∃ H3, H3 = upd H2 L (.lst (r.map fun q => V.ref q.1)) := ⟨_, rfl⟩
    rw [← e3]
    have st3 : ∀ b o, H2 b = some o → b ≠ L → H3 b = some o := fun b o h n => by
      rw [e3, upd_ne n]
      exact h
    have ht0 := S.ot q0 (by simp)
    have S3 : LS H HR CT x N L dx t H3 kvs r := ⟨st3 _ _ S.ox (ne_of S.ox S.ol (by intro z; cases z)), st3 _ _ S.on (ne_of S.on S.ol (by intro z; cases z)), by rw [e3]; exact upd_same, fun q1 h1 => st3 _ _ (S.ot q1 (List.mem_append_left _ h1)) (ne_of (S.ot q1 (List.mem_append_left _ h1)) S.ol (by intro z; cases z)), fun b o nb hb0 => st3 _ _ (S.kp b o nb hb0) (fun z => by
      rw [z, Lc.hL] at hb0
      cases hb0)⟩
    have ht3 : H3 q0.1 = some (.tup (q0.2.map V.str)) := st3 _ _ ht0 (ne_of ht0 S.ol (by intro z; cases z))
    have hk3 : DKeep HR H3 := fun b kv hb0 => st3 _ _ (hk b kv hb0) (fun z => Lc.lR kv (z ▸ hb0))
    obtain ⟨v0, hv0⟩ := F.td q0 (by simp)
    obtain ⟨p', u, ep, hsub, hnd⟩ := F.ok _ v0 hv0
    cases pk_inj ep
    have g1 : DGet H3 N (.ref q0.1) (some v0) := by
      have z := DGet.t (k := pk q0.2) S3.on (by rw [pk_kV]; exact ht3)
      rw [hv0] at z
      exact z
    refine ⟨_, rfl, x, CT, dx, fl N, .ref N, rfl, S3.ox, T.cl, T.nN, fl_nodes N, _, rfl, N, v0, rfl, g1, ?_⟩
    cases u with
    | dir ks =>
      obtain ⟨F3, hm⟩ := F.pop hsub ks (.inl rfl)
      obtain ⟨d, rfl, kvd, hd⟩ : ∃ d, v0 = .ref d ∧ ∃ kvd, HR d = some (.dK kvd) := by
        cases hnd with
        | dir h _ _ _ _ _ => exact ⟨_, rfl, _, h⟩
      refine ⟨_, .ty "dict", _, _, true, rfl, .ty _, .base (.dK (hk3 _ _ hd)), kit_ty (by decide +kernel), _, rfl, iteT ?_⟩
      refine rf _ Lc (by omega) hnd hsub S3 F3 ht3 hv0 hk3 fun n' H4 kvs4 todo4 S4 F4 hk4 => ?_
      exact ⟨m - 1, by omega, some (.ref q0.1), n', kvs4, todo4, _, rfl, S4, F4, hk4, by omega⟩
    | fil i =>
      obtain ⟨F3, hm⟩ := F.pop hsub [] (.inr ⟨rfl, fun _ z => nomatch z⟩)
      obtain rfl : v0 = .int i := by
        cases hnd
        rfl
      refine ⟨_, .ty "dict", _, _, false, rfl, .ty _, .base (.int i), kit_ty (by decide +kernel), _, rfl, iteF ?_⟩
      exact ⟨m - 1, by omega, some (.ref q0.1), n, kvs, r, _, rfl, S3, F3, hk3, by omega⟩
    | lnk z =>
      obtain ⟨F3, hm⟩ := F.pop hsub [] (.inr ⟨rfl, fun _ z => nomatch z⟩)
      obtain rfl : v0 = .str z := by
        cases hnd
        rfl
      refine ⟨_, .ty "dict", _, _, false, rfl, .ty _, .base (.str z), kit_ty (by decide +kernel), _, rfl, iteF ?_⟩
      exact ⟨m - 1, by omega, some (.ref q0.1), n, kvs, r, _, rfl, S3, F3, hk3, by omega⟩
/-- Tree(top) -/
def spTree (K : PySem.W.Frag) (CT C : Addr) : Sp := fun vs H Q E => ∃ x dx v, vs = [.ref x, v] ∧ H x = some (.ins CT dx []) ∧
  ((∃ ks, NdAt H v (.dir ks) ∧ (∀ t' n, nv 9 (.dir ks) 0 = some (t', n) → ∀ H' N kvs, H' x = some (.ins CT dx (fl N)) → newIn H H' N = some (.dT kvs) → FlatD (newIn H H') t' kvs → But x H H' → Q .non H') ∧ (nv 9 (.dir ks) 0 = none → ∀ H', But x H H' → E (.ref C) none H')) ∨
  ∃ ty, TyX K H v ty ∧ PySem.W.kitOne K ty (.type "dict") = some false ∧ E (.ref C) none H)
theorem ok_init (F : Fun K "__init__" "Tree.__init__" sInit f fd) (B : Bi mg) (T : Tr K mg CT) (Nt : No K mg C) (NX : Cl P w K mg base (L2.CX P w) 12 "node_value" ["thing", "depth", "met"] (spNode C 9)) :
    FnOk P w K mg base (L2.CX P w) 13 f fd ["self", "top"] (spTree K CT C) := by
  refine F.okX scInit (fun vs H Q E h => ?_) (fun cdv A outer s H vs Q E hr h => ?_)
  · obtain ⟨x, dx, v, rfl, _⟩ := h
    rfl
  · obtain ⟨x, dx, v, rfl, hx, h⟩ := h
    rw [bodyInit]
    have hr' : Room 12 (XI P w K mg base f cdv A outer s H E).A := hr
    have hu1 : (XI P w K mg base f cdv A outer s H E).A.units + 1 < cLine := by
      have := hr'.units
      omega
    obtain ⟨tw, hw, rw'⟩ := hWh (P := P) (w := w) (base := base) (f := f) (cdv := cdv) (A := A) (outer := outer) (s := s) (H0 := H) (E := E) B T (hr'.mono (by decide))
    refine ⟨_, pss_cons (ps_if (pt_not (pt_val (pe_callB call_isi (by rfl) B.isin (by decide +kernel) (pa_cons (pv 1) (pa_cons (pe_bltn (v := .ty "dict") (by rfl) B.dict (by decide +kernel) rfl) pa_nil))))) (pss_one (ps_raise rfl (takes_of rfl rfl rfl rfl) (pmk_own PySem.F.excBase_ValueError Nt.x Nt.g Nt.k (raises_own Nt.b Nt.t) (by rfl)))) pss_nil)
      (pss_cons (ps_fld (pv 0) (DcE.pe_dispT hu1 (pe_tup pa_nil) (pe_cl NX hr' (Nat.le_refl _) (by rfl) (passes_call (takes_of rfl rfl rfl rfl) (fun _ _ _ _ h => h)) (pa_cons (pv 1) (pa_cons pe_int (pa_cons (pe_lst pa_nil) pa_nil))))) rfl)
      (pss_cons (ps_set (i := 2) scInit.nd rfl (Or.inl rfl) (pe_lst (pa_cons (pe_tup pa_nil) pa_nil)))
      (pss_one hw))), ?_⟩
    rcases h with ⟨ks, hn, hQ, hE⟩ | ⟨ty, hty, hk, hE⟩
    · obtain ⟨d0, rfl, kv0, hd0⟩ : ∃ d, v = .ref d ∧ ∃ kvd, H d = some (.dK kvd) := by
        cases hn with
        | dir h _ _ _ _ _ => exact ⟨_, rfl, _, h⟩
      refine ⟨_, rfl, _, .ty "dict", _, _, true, rfl, .ty _, .base (.dK hd0), kit_ty (by decide +kernel), _, rfl, iteF ?_⟩
      intro p hp
      refine ⟨by show 0 ≤ sizeLine; decide, fun pt hpt => ?_⟩
      refine ⟨_, rfl, by show 0 ≤ sizeLine; decide, fun pm hpm => ?_⟩
      have s1 : Same H (upd H p (.dT [])) := same_new hp
      have s2 : Same (upd H p (.dT [])) (upd (upd H p (.dT [])) pt (.tup [])) := same_new hpt
      have s3 : Same (upd (upd H p (.dT [])) pt (.tup [])) (upd (upd (upd H p (.dT [])) pt (.tup [])) pm (.lst [])) := same_new hpm
      have hp2 := s2 _ _ (upd_same (H := H) (a := p) (o := .dT []))
      have hp3 := s3 _ _ hp2
      have ht3 := s3 _ _ (upd_same (H := upd H p (.dT [])) (a := pt) (o := .tup []))
      have hm3 : (upd (upd (upd H p (.dT [])) pt (.tup [])) pm (.lst [])) pm = some (.lst []) := upd_same
      obtain ⟨H3, e3⟩ : ∃ H3, H3 = upd (upd (upd H p (.dT [])) pt (.tup [])) pm (.lst []) := ⟨_, rfl⟩
      have s13 : Same H H3 := fun b o h => by
        rw [e3]
        exact s3 _ _ (s2 _ _ (s1 _ _ h))
      rw [← e3] at hp3 ht3 hm3 ⊢
      have pmp : p ≠ pm := ne_of hp3 hm3 (by intro z; cases z)
      have ptm : pt ≠ pm := ne_of ht3 hm3 (by intro z; cases z)
      have pmH : H pm = none := by
        cases e : H pm with
        | none => rfl
        | some o =>
          rw [s2 _ _ (s1 _ _ e)] at hpm
          cases hpm
      refine ⟨_, .dir ks, pm, [], rfl, hn.mono (DKeep.same s13), hm3, by decide, ?_, ?_⟩
      · intro t' n en v' ms' H4 hv' hm' hl' hb
        have kp4 : Same H H4 := fun b o h => hb b o (fun z => by
          rw [z, pmH] at h
          cases h) (s13 _ _ h)
        have hp4 : H4 p = some (.dT []) := hb _ _ pmp hp3
        refine ⟨hp4, pt, [], v', rfl, hb _ _ ptm ht3, ?_⟩
        have px : p ≠ x := (ne_of_none hx hp).symm
        refine ⟨_, rfl, x, CT, dx, [], rfl, by rw [upd_ne px.symm]; exact kp4 _ _ hx, T.cl, T.nN, (by show 0 < 1000; decide), ?_⟩
        obtain ⟨H6, e6⟩ : ∃ H6, H6 = upd (upd H4 p (.dT [([], v')])) x (.ins CT dx (fl p)) := ⟨_, rfl⟩
        have hx6 : H6 x = some (.ins CT dx (fl p)) := by rw [e6]; exact upd_same
        have hp6 : H6 p = some (.dT [([], v')]) := by
          rw [e6, upd_ne px]
          exact upd_same
        have st6 : ∀ b o, H4 b = some o → b ≠ p → b ≠ x → H6 b = some o := fun b o h n1 n2 => by
          rw [e6, upd_ne n2, upd_ne n1]
          exact h
        refine ⟨by show 0 ≤ sizeLine; decide, fun pt2 hpt2 => ⟨by show 1 ≤ sizeLine; decide, fun pL hpL => ?_⟩⟩
        have e6' : upd (upd H4 p (.dT [([], v')])) x (.ins CT dx (putF "nodes" (.ref p) [])) = H6 := e6.symm
        rw [e6'] at hpt2 hpL ⊢
        have s7 : Same H6 (upd H6 pt2 (.tup [])) := same_new hpt2
        have s8 : Same (upd H6 pt2 (.tup [])) (upd (upd H6 pt2 (.tup [])) pL (.lst [.ref pt2])) := same_new hpL
        have ht8 := s8 _ _ (upd_same (H := H6) (a := pt2) (o := .tup []))
        have hL8 : (upd (upd H6 pt2 (.tup [])) pL (.lst [.ref pt2])) pL = some (.lst [.ref pt2]) := upd_same
        have s68 : Same H6 (upd (upd H6 pt2 (.tup [])) pL (.lst [.ref pt2])) := fun b o h => s8 _ _ (s7 _ _ h)
        have pL6 : H6 pL = none := by
          cases e : H6 pL with
          | none => rfl
          | some o =>
            rw [s7 _ _ e] at hpL
            cases hpL
        have pLp : pL ≠ p := fun z => by
          rw [z, hp6] at pL6
          cases pL6
        have pLx : pL ≠ x := fun z => by
          rw [z, hx6] at pL6
          cases pL6
        have pL4 : H4 pL = none := by
          cases e : H4 pL with
          | none => rfl
          | some o =>
            rw [st6 _ _ e pLp pLx] at pL6
            cases pL6
        have pLH : H pL = none := by
          cases e : H pL with
          | none => rfl
          | some o =>
            rw [kp4 _ _ e] at pL4
            cases pL4
        have hsz : sz t' ≤ 61 := by
          have z1 := nv_sz _ _ _ _ _ en
          have z2 := nv_le _ _ _ _ _ en
          have z3 : ([] : List V).length = 0 := rfl
          omega
        have hR : ∀ b o, newIn H H4 b = some o → H b = none := fun b o h => (newIn_some h).1
        have nb : But x H (upd (upd H6 pt2 (.tup [])) pL (.lst [.ref pt2])) := fun b o nb h => s68 _ _ (st6 _ _ (kp4 _ _ h) (ne_of_none h hp) nb)
        refine rw' _ (H := H) (HR := newIn H H4) (x := x) (N := p) (L := pL) (dx := dx) (t := t') (now := []) (M := sz t') (kvs := [([], v')]) (todo := [(pt2, [])]) ⟨⟨_, hx⟩, hp, pLH, hR, ?_, ?_, hsz⟩ hsz ⟨s68 _ _ hx6, s68 _ _ hp6, hL8, ?_, nb⟩ (Fl.start ?_ hsz) ?_ ?_
        · intro kv z
          rw [newIn_of hp, hp4] at z
          cases z
        · intro kv z
          rw [newIn_of pLH, pL4] at z
          cases z
        · intro q0 hq0
          rw [List.mem_singleton] at hq0
          subst hq0
          exact ht8
        · exact hv'.mono (newIn_part (fun b o h => ⟨_, s13 _ _ h⟩) fun _ _ _ e => e)
        · intro b kv hb0
          obtain ⟨z1, z2⟩ := newIn_some hb0
          refine s68 _ _ (st6 _ _ z2 (fun z => ?_) (fun z => ?_))
          · rw [z, hp4] at z2
            cases z2
          · rw [z, hx] at z1
            cases z1
        · intro σ H9 kvs S9 F9 k9
          refine hQ t' n en H9 p kvs S9.ox ?_ (F9.mono fun b kv hb0 => ?_) S9.kp
          · rw [newIn_of hp]
            exact S9.on
          · rw [newIn_of (hR _ _ hb0)]
            exact k9 b kv hb0
      · intro en H4 hb _
        exact hE en H4 fun b o nx h => hb b o (fun z => by
          rw [z, pmH] at h
          cases h) (s13 _ _ h)
    · exact ⟨_, rfl, _, .ty "dict", _, _, false, rfl, .ty _, hty, hk, _, rfl, iteT hE⟩
end
end Tx
set_option autoImplicit true
set_option Elab.async false
set_option linter.all false
set_option maxRecDepth 100000
set_option maxHeartbeats 8000000
namespace Tx
open PySem PySem.Spec PyProof.Rows L2 Cm
theorem callIsiK {X : Cx} {K : PySem.W.Frag} (h : X.K = K) : CallR X (.builtin "isinstance") (rIsi K) := h ▸ call_isi
abbrev sHeld : Stmt := inClass sTree 2
abbrev sKind : Stmt := inClass sTree 3
abbrev sValue : Stmt := inClass sTree 4
/-- a Tree of the nodes t stands at a -/
structure TrAt (H : Hp) (CT a : Addr) (t : Nd) : Prop where
  ex : ∃ dx N kvs, H a = some (.ins CT dx (fl N)) ∧ H N = some (.dT kvs) ∧ FlatD H t kvs
theorem TrAt.same {H H' : Hp} {CT a : Addr} {t : Nd} (h : TrAt H CT a t) (s : Same H H') : TrAt H' CT a t := by
  obtain ⟨dx, N, kvs, h1, h2, h3⟩ := h.ex
  exact ⟨dx, N, kvs, s _ _ h1, s _ _ h2, h3.mono (DKeep.same s)⟩
/-- what held returns for what stands at the path -/
def HeldV (H : Hp) : Option Nd → V → Prop
  | none, v => v = .non
  | some u, v => NdAt H v u
def spHeld (CT : Addr) : Sp := fun vs H Q _ => ∃ a b t p, vs = [.ref a, .ref b] ∧ TrAt H CT a t ∧ H b = some (.tup (p.map V.str)) ∧ p.length ≤ 900 ∧ ∀ v H', Same H H' → HeldV H (sub t p) v → Q v H'
def kindV : Option Nd → V
  | none => .non
  | some (.dir _) => .str "dir"
  | some (.lnk _) => .str "link"
  | some (.fil _) => .str "file"
def valueV : Option Nd → V
  | none => .non
  | some (.dir _) => .non
  | some (.lnk z) => .str z
  | some (.fil i) => .int i
def spKind (CT : Addr) : Sp := fun vs H Q _ => ∃ a b t p, vs = [.ref a, .ref b] ∧ TrAt H CT a t ∧ H b = some (.tup (p.map V.str)) ∧ p.length ≤ 900 ∧ ∀ H', Same H H' → Q (kindV (sub t p)) H'
def spValue (CT : Addr) : Sp := fun vs H Q _ => ∃ a b t p, vs = [.ref a, .ref b] ∧ TrAt H CT a t ∧ H b = some (.tup (p.map V.str)) ∧ p.length ≤ 900 ∧ ∀ H', Same H H' → Q (valueV (sub t p)) H'
theorem scHeld : FnScope ["self", "node", "name"] ["self", "node"] (defScope sHeld) := ⟨rfl, rfl, rfl, by decide +kernel, rfl, by decide +kernel, by decide +kernel⟩
theorem scKind : FnScope ["self", "node", "held"] ["self", "node"] (defScope sKind) := ⟨rfl, rfl, rfl, by decide +kernel, rfl, by decide +kernel, by decide +kernel⟩
theorem scValue : FnScope ["self", "node", "held"] ["self", "node"] (defScope sValue) := ⟨rfl, rfl, rfl, by decide +kernel, rfl, by decide +kernel, by decide +kernel⟩
section
variable {P : Program} {w : World} {K : PySem.W.Frag} {mg : Str → Option Value} {base : Heap} {f CT : Addr} {fd : FuncData}
theorem ok_held {k : Nat} (F : Fun K "held" "Tree.held" sHeld f fd) (B : Bi mg) (T : Tr K mg CT) : FnOk P w K mg base CX0 (k + 1) f fd ["self", "node"] (spHeld CT) := by
  refine F.ok scHeld (fun vs H Q E h => ?_) (fun cdv A outer s H vs Q E hr h => ?_)
  · obtain ⟨a, b, t, p, rfl, _⟩ := h
    rfl
  · obtain ⟨a, b, t, p, rfl, hT, hb, hl, q⟩ := h
    have hu1 : (A.deeper (envOfC "Tree.held" (defScope sHeld) s.heap.objs.size f cdv)).units + 1 < cLine := by
      have := hr.units
      omega
    refine ⟨_, pss_cons (ps_if (PW.pt (pw_or (pt_not (pt_val (pe_callB call_isi (by rfl) B.isin (by decide +kernel) (pa_cons (pv 1) (pa_cons (pe_bltn (v := .ty "tuple") (by rfl) B.tuple (by decide +kernel) rfl) pa_nil))))) (pw_or1 (pt_not (pt_val (pe_callB (cr_all rfl) (by rfl) B.all (by decide +kernel) (pa_cons (pe_lc (own := [("name", 2)]) (g := gName 2) (tt := tYes) (by rfl) scHeld.nd (pi_tup (pv 1)) (blkOk_by (own := [("name", 2)]) (N := ["self", "node", "name"]) (sc := defScope sHeld) (by decide +kernel)) (fun _ _ _ _ _ => pg_name (i := 2) scHeld.nd rfl (Or.inl rfl)) (fun _ _ _ _ _ => pts_nil)
          (fun _ _ _ _ _ => pe_callB (callIsiK (K := K) rfl) (by rfl) B.isin (by decide +kernel) (pa_cons (pv 2) (pa_cons (pe_bltn (v := .ty "str") (by rfl) B.str (by decide +kernel) rfl) pa_nil)))) pa_nil))))))) (pss_one (ps_ret pe_non)) pss_nil)
      (pss_one (ps_ret (pe_dget1 hu1 (pe_fld (pv 0) rfl) (pv 1) ⟨rfl, rfl, rfl, rfl⟩))), ?_⟩
    refine ⟨_, rfl, _, .ty "tuple", _, _, true, rfl, .ty _, .base (.tup hb), kit_ty (by decide +kernel), _, rfl, iteF ?_⟩
    refine ⟨_, rfl, b, rfl, ⟨_, SqT.of hb⟩, fun D hD => lc_tup (K := K) (a := b) (xs := p.map V.str) (fun i H' => H' D = some (.lst ((List.replicate i true).map V.bl)) ∧ Same H H') ⟨upd_same, same_new hD⟩ (fun i H' _ h => SqT.of (h.2 _ _ hb)) ?_ ?_⟩
    · rintro i x H1 hx ⟨h3, sm⟩
      obtain ⟨z, rfl⟩ : ∃ z, x = V.str z := by
        rw [List.getElem?_map] at hx
        cases e : p[i]? with
        | none =>
          rw [e] at hx
          cases hx
        | some z =>
          rw [e] at hx
          exact ⟨z, (Option.some.inj hx).symm⟩
      have hi : i < (p.map V.str).length := (List.getElem?_eq_some_iff.mp hx).1
      rw [List.length_map] at hi
      refine ⟨rfl, _, rfl, _, .ty "str", _, _, true, rfl, .ty _, .base (.str z), kit_ty (by decide +kernel), ?_⟩
      refine ⟨_, h3, small1000 (by rw [List.length_map, List.length_replicate]; omega), ?_, same_mut hD sm⟩
      rw [upd_same, List.replicate_succ', List.map_append]
      rfl
    · rintro H1 ⟨h3, sm⟩
      refine ⟨D, _, rfl, SqL.of h3, _, rfl, ?_⟩
      have ea : (List.replicate (p.map V.str).length true).all id = true := by
        rw [List.all_eq_true]
        intro x hx
        rw [List.eq_of_mem_replicate hx]
        rfl
      rw [ea]
      refine iteF ?_
      obtain ⟨dx, N, kvs, h1, h2, h4⟩ := hT.ex
      have g1 : DGet H1 N (.ref b) (valV kvs (pk p)) := DGet.t (sm _ _ h2) (by rw [pk_kV]; exact sm _ _ hb)
      refine ⟨_, rfl, a, CT, dx, fl N, .ref N, rfl, sm _ _ h1, T.cl, T.nN, fl_nodes N, N, rfl, .inr ⟨kvs, .inl (sm _ _ h2)⟩, _, rfl, _, g1, q _ _ sm ?_⟩
      cases e : sub t p with
      | none =>
        rw [h4.no e]
        rfl
      | some u =>
        obtain ⟨v, hv, hn⟩ := h4.get e
        rw [hv]
        exact hn
theorem ok_kind {fH : Addr} {fdH : FuncData} {k : Nat} (F : Fun K "kind" "Tree.kind" sKind f fd) (B : Bi mg) (T : Tr K mg CT) (mH : Meth K CT "held" fH) (FH : FnOk P w K mg base CX0 (k + 1) fH fdH ["self", "node"] (spHeld CT)) (bH : Binds K fdH ["self", "node"] []) :
    FnOk P w K mg base CX0 (k + 2) f fd ["self", "node"] (spKind CT) := by
  refine F.ok scKind (fun vs H Q E h => ?_) (fun cdv A outer s H vs Q E hr h => ?_)
  · obtain ⟨a, b, t, p, rfl, _⟩ := h
    rfl
  · obtain ⟨a, b, t, p, rfl, hT, hb, hl, q⟩ := h
    refine ⟨_, pss_cons (ps_set (i := 2) scKind.nd rfl (Or.inl rfl) (pe_meth (pv 0) T.cl mH FH hr bH .nil pass0 (pa_cons (pv 1) pa_nil)))
      (pss_cons (ps_if (pt_cmp (pc_isN (pv 2))) (pss_one (ps_ret pe_non)) pss_nil)
      (pss_cons (ps_if (pt_val (pe_callB call_isi (by rfl) B.isin (by decide +kernel) (pa_cons (pv 2) (pa_cons (pe_bltn (v := .ty "dict") (by rfl) B.dict (by decide +kernel) rfl) pa_nil)))) (pss_one (ps_ret pe_str)) pss_nil)
      (pss_one (ps_ret (pe_ifExp (pt_val (pe_callB call_isi (by rfl) B.isin (by decide +kernel) (pa_cons (pv 2) (pa_cons (pe_bltn (v := .ty "str") (by rfl) B.str (by decide +kernel) rfl) pa_nil)))) pe_str pe_str))))), ?_⟩
    obtain ⟨dx, N, kvs, h1, h2, h4⟩ := hT.ex
    refine ⟨_, rfl, a, dx, fl N, rfl, h1, fl_no N (by decide +kernel), _, rfl, a, b, t, p, rfl, hT, hb, hl, fun v H1 sm hv => ?_⟩
    have qq := q H1 sm
    cases e : sub t p with
    | none =>
      rw [e] at hv qq
      obtain rfl : v = .non := hv
      exact ⟨_, rfl, _, rfl, iteT qq⟩
    | some u =>
      rw [e] at hv qq
      have hv' : NdAt H v u := hv
      cases hv' with
      | fil i =>
        refine ⟨_, rfl, _, rfl, iteF ?_⟩
        refine ⟨_, rfl, _, .ty "dict", _, _, false, rfl, .ty _, .base (.int i), kit_ty (by decide +kernel), _, rfl, iteF ?_⟩
        exact ⟨_, rfl, _, .ty "str", _, _, false, rfl, .ty _, .base (.int i), kit_ty (by decide +kernel), _, rfl, iteF qq⟩
      | lnk z hz =>
        refine ⟨_, rfl, _, rfl, iteF ?_⟩
        refine ⟨_, rfl, _, .ty "dict", _, _, false, rfl, .ty _, .base (.str z), kit_ty (by decide +kernel), _, rfl, iteF ?_⟩
        exact ⟨_, rfl, _, .ty "str", _, _, true, rfl, .ty _, .base (.str z), kit_ty (by decide +kernel), _, rfl, iteT qq⟩
      | dir h _ _ _ _ _ =>
        refine ⟨_, rfl, _, rfl, iteF ?_⟩
        exact ⟨_, rfl, _, .ty "dict", _, _, true, rfl, .ty _, .base (.dK (sm _ _ h)), kit_ty (by decide +kernel), _, rfl, iteT qq⟩
theorem ok_value {fH : Addr} {fdH : FuncData} {k : Nat} (F : Fun K "value" "Tree.value" sValue f fd) (B : Bi mg) (T : Tr K mg CT) (mH : Meth K CT "held" fH) (FH : FnOk P w K mg base CX0 (k + 1) fH fdH ["self", "node"] (spHeld CT)) (bH : Binds K fdH ["self", "node"] []) :
    FnOk P w K mg base CX0 (k + 2) f fd ["self", "node"] (spValue CT) := by
  refine F.ok scValue (fun vs H Q E h => ?_) (fun cdv A outer s H vs Q E hr h => ?_)
  · obtain ⟨a, b, t, p, rfl, _⟩ := h
    rfl
  · obtain ⟨a, b, t, p, rfl, hT, hb, hl, q⟩ := h
    refine ⟨_, pss_cons (ps_set (i := 2) scValue.nd rfl (Or.inl rfl) (pe_meth (pv 0) T.cl mH FH hr bH .nil pass0 (pa_cons (pv 1) pa_nil)))
      (pss_one (ps_ret (pe_ifExp (pt_val (pe_callB call_isi (by rfl) B.isin (by decide +kernel) (pa_cons (pv 2) (pa_cons (pe_bltn (v := .ty "dict") (by rfl) B.dict (by decide +kernel) rfl) pa_nil)))) pe_non (pv 2)))), ?_⟩
    obtain ⟨dx, N, kvs, h1, h2, h4⟩ := hT.ex
    refine ⟨_, rfl, a, dx, fl N, rfl, h1, fl_no N (by decide +kernel), _, rfl, a, b, t, p, rfl, hT, hb, hl, fun v H1 sm hv => ?_⟩
    have qq := q H1 sm
    cases e : sub t p with
    | none =>
      rw [e] at hv qq
      obtain rfl : v = .non := hv
      exact ⟨_, rfl, _, .ty "dict", _, _, false, rfl, .ty _, .base .non, kit_ty (by decide +kernel), _, rfl, iteF ⟨_, rfl, qq⟩⟩
    | some u =>
      rw [e] at hv qq
      have hv' : NdAt H v u := hv
      cases hv' with
      | fil i => exact ⟨_, rfl, _, .ty "dict", _, _, false, rfl, .ty _, .base (.int i), kit_ty (by decide +kernel), _, rfl, iteF ⟨_, rfl, qq⟩⟩
      | lnk z hz => exact ⟨_, rfl, _, .ty "dict", _, _, false, rfl, .ty _, .base (.str z), kit_ty (by decide +kernel), _, rfl, iteF ⟨_, rfl, qq⟩⟩
      | dir h _ _ _ _ _ => exact ⟨_, rfl, _, .ty "dict", _, _, true, rfl, .ty _, .base (.dK (sm _ _ h)), kit_ty (by decide +kernel), _, rfl, iteT qq⟩
end
end Tx
set_option autoImplicit true
set_option Elab.async false
set_option linter.all false
set_option maxRecDepth 100000
set_option maxHeartbeats 4000000
/-! Lists written out, whose entries are told one by one by words of our own; all that was there stays. -/
namespace Wl
open PySem PySem.Spec PyProof.Rows L2 Cm
theorem PE.weak {X : Cx} {e : Expr} {te te' : TE} (h : PE X e te) (i : ∀ σ H Q, te' σ H Q → te σ H Q) : PE X e te' := ⟨fun pins s σ H Q I g => h.run pins s σ H Q I (i σ H Q g)⟩
theorem PA.weak {X : Cx} {es : List Expr} {t t' : TA} (h : PA X es t) (i : ∀ σ H Q, t' σ H Q → t σ H Q) : PA X es t' := ⟨fun pos pins s σ H Q I g => h.run pos pins s σ H Q I (i σ H Q g)⟩
/-- what is told of a state stays true as the heap grows -/
def Stb (G : L2.St → Hp → Prop) : Prop := ∀ σ H H', Same H H' → G σ H → G σ H'
def StbR {α : Type} (R : Hp → V → α → Prop) : Prop := ∀ H H' v w, Same H H' → R H v w → R H' v w
section
variable {α : Type} {G : L2.St → Hp → Prop} {R : Hp → V → α → Prop}
/-- one value, told by w -/
def tE (G : L2.St → Hp → Prop) (R : Hp → V → α → Prop) (w : α) : TE := fun σ H Q => G σ H ∧ ∀ v H', Same H H' → R H' v w → Q v H'
/-- a row of values -/
def tEs (G : L2.St → Hp → Prop) (R : Hp → V → α → Prop) (ws : List α) : TA := fun σ H Q => G σ H ∧ ∀ xs H', Same H H' → Paired (R H') xs ws → Q xs H'
/-- a list of such -/
def LsAt (R : Hp → V → α → Prop) (H : Hp) (v : V) (ws : List α) : Prop := ∃ l xs, v = .ref l ∧ H l = some (.lst xs) ∧ Paired (R H) xs ws
theorem pd_mono {H H' : Hp} (hR : StbR R) (s : Same H H') : ∀ {xs : List V} {ws : List α}, Paired (R H) xs ws → Paired (R H') xs ws
  | _, _, .nil => .nil
  | _, _, .cons a r => .cons (hR _ _ _ _ s a) (pd_mono hR s r)
theorem stbL (hR : StbR R) : StbR (LsAt R) := fun H H' v ws s ⟨l, xs, e, h, p⟩ => ⟨l, xs, e, s _ _ h, pd_mono hR s p⟩
theorem pd_len {H : Hp} {xs : List V} {ws : List α} (p : Paired (R H) xs ws) : xs.length = ws.length := Paired.length p
theorem pd_app {F : V → α → Prop} : ∀ {xs ys : List V} {ws us : List α}, Paired F xs ws → Paired F ys us → Paired F (xs ++ ys) (ws ++ us)
  | _, _, _, _, .nil, b => b
  | _, _, _, _, .cons a r, b => .cons a (pd_app r b)
variable {X : Cx} {e : Expr} {es : List Expr} {w : α} {ws us : List α} {pos p : Pos}
theorem pa_n (G : L2.St → Hp → Prop) (R : Hp → V → α → Prop) : PA X [] (tEs G R []) := PA.weak pa_nil fun σ H Q h => h.2 [] H (fun _ _ e => e) .nil
theorem pa_c (hG : Stb G) (hR : StbR R) (he : PE X e (tE G R w)) (hr : PA X es (tEs G R ws)) (hs : starEach (e :: es) X.env = (false, eval e X.env) :: starEach es X.env := by rfl) : PA X (e :: es) (tEs G R (w :: ws)) :=
  PA.weak (pa_cons he hr hs) fun σ H Q h => ⟨h.1, fun v H1 s1 r1 => ⟨hG _ _ _ s1 h.1, fun xs H2 s2 r2 => h.2 _ _ (fun b o z => s2 b o (s1 b o z)) (.cons (hR _ _ _ _ s2 r1) r2)⟩⟩
theorem pe_l (hR : StbR R) (hz : ws.length ≤ 1000) (h : PA X es (tEs G R ws)) : PE X (.List es pos) (tE G (LsAt R) ws) :=
  PE.weak (pe_lst h) fun σ H Q g => ⟨g.1, fun xs H1 s1 r1 => ⟨by rw [pd_len r1, sizeLine_eq]; omega, fun l hl => g.2 _ _ (fun b o z => same_new hl b o (s1 b o z)) ⟨l, xs, rfl, upd_same, pd_mono hR (same_new hl) r1⟩⟩⟩
theorem pe_cat {a b : Expr} (hG : Stb G) (hR : StbR R) (hz : ws.length + us.length ≤ 1000) (ha : PE X a (tE G (LsAt R) ws)) (hb : PE X b (tE G (LsAt R) us)) : PE X (.BinOp a .Add b pos) (tE G (LsAt R) (ws ++ us)) :=
  PE.weak (pe_op op_cat ha hb) fun σ H Q g => ⟨g.1, fun v1 H1 s1 r1 => ⟨hG _ _ _ s1 g.1, fun v2 H2 s2 r2 => by
    obtain ⟨l1, xs, e1, h1, p1⟩ := stbL hR _ _ _ _ s2 r1
    obtain ⟨l2, ys, e2, h2, p2⟩ := r2
    refine ⟨l1, l2, xs, ys, e1, e2, h1, h2, by rw [pd_len p1, pd_len p2, sizeLine_eq]; omega, fun l hl => g.2 _ _ (fun b o z => same_new hl b o (s2 b o (s1 b o z))) ⟨l, _, rfl, upd_same, pd_mono hR (same_new hl) (pd_app p1 p2)⟩⟩⟩⟩
/-- the list that stands in the name i -/
def Gn (G : L2.St → Hp → Prop) (R : Hp → V → List α → Prop) (i : Nat) (ws : List α) : L2.St → Hp → Prop := fun σ H => G σ H ∧ ∃ v, σ[i]? = some (some v) ∧ R H v ws
theorem stbG {R : Hp → V → List α → Prop} {i : Nat} (hG : Stb G) (hR : StbR R) : Stb (Gn G R i ws) := fun σ H H' s ⟨g, v, e, r⟩ => ⟨hG _ _ _ s g, v, e, hR _ _ _ _ s r⟩
theorem pe_n {β : Type} {G : L2.St → Hp → Prop} {R : Hp → V → β → Prop} {i : Nat} {w : β} {x : Str} (h : PE X (.Name x p) (tVar i)) (hi : ∀ σ H, G σ H → ∃ v, σ[i]? = some (some v) ∧ R H v w) : PE X (.Name x p) (tE G R w) :=
  PE.weak h fun σ H Q g => by
    obtain ⟨v, e, r⟩ := hi σ H g.1
    exact ⟨v, e, g.2 v H (fun _ _ z => z) r⟩
/-- x = e -/
theorem ho_set {β : Type} {G G' : L2.St → Hp → Prop} {R : Hp → V → β → Prop} {i : Nat} {w : β} {x : Str} {pos' : Pos} (hN : X.N.Nodup) (hi : X.N[i]? = some x) (hx : Loc X.env.scope x) (he : PE X e (tE G R w)) (hg : ∀ σ H v H', G σ H → Same H H' → R H' v w → G' (σ.set i (some v)) H')
    (hs : swapsWith e (some (.Name x pos')) pos.line X.env = pure false := by rfl) (hf : X.fn x = true ∨ X.env.scope.names.lookup x = some .local := by first | exact .inl rfl | exact .inr rfl | assumption) : Ho X (.Assign [.Name x pos'] e pos) G G' :=
  ⟨_, ps_set hN hi hx he hs hf, fun D σ H g q => ⟨g, fun v H' s r => q _ _ (hg σ H v H' g s r)⟩⟩
/-- return e -/
theorem ho_ret {β : Type} {R : Hp → V → β → Prop} {w : β} {r : VK} (he : PE X e (tE G R w)) (hr : ∀ σ H v H', G σ H → Same H H' → R H' v w → r v H') : HoR X [.Return (some e) pos] G r :=
  ⟨_, pss_one (ps_ret he), fun D σ H g q => ⟨g, fun v H' s h => q _ _ (hr σ H v H' g s h)⟩⟩
end
end Wl
set_option autoImplicit true
set_option Elab.async false
set_option linter.all false
set_option maxRecDepth 100000
set_option maxHeartbeats 4000000
namespace Tx
open PySem PySem.Spec PyProof.Rows L2 Cm Ob
/-- what is never reached wants nothing -/
theorem pss_never {X : Cx} {sts : List Stmt} : PSs X sts (fun _ _ _ => False) := ⟨fun _ _ _ _ _ _ h => h.elim⟩
def tNo : TE := fun _ _ _ => False
theorem pe_never {X : Cx} {e : Expr} : PE X e tNo := ⟨fun _ _ _ _ _ _ h => h.elim⟩
def sNo : TS := fun _ _ _ => False
theorem pss_no {X : Cx} {sts : List Stmt} : PSs X sts sNo := ⟨fun _ _ _ _ _ _ h => h.elim⟩
theorem units1 {A : Around} {k : Nat} (hr : Room k A) : A.units + 1 < cLine := Nat.lt_of_le_of_lt (Nat.add_le_add_left (by decide) _) hr.units
theorem passF {P : Program} {w : World} {X : Cx} : Passes (L2.CX P w) X (fun _ _ _ => False) := fun _ _ _ _ _ _ _ ⟨_, _, _, _, _, _, _, _, _, _, _, _, z⟩ => z.elim
theorem pd_at {α : Type} {F : V → α → Prop} {xs : List V} {ws : List α} (p : Paired F xs ws) : ∀ {i : Nat} {x : V}, xs[i]? = some x → ∃ w, ws[i]? = some w ∧ F x w := by
  induction p with
  | nil => intro i x h; simp at h
  | cons a r ih =>
    intro i x h
    match i, h with
    | 0, h =>
      cases h
      exact ⟨_, rfl, a⟩
    | i + 1, h => exact ih (i := i) (by simpa using h)
theorem iteT' {c : Bool} {A B : Prop} (h : c = true) (a : A) : if c = true then A else B := by
  subst h
  exact a
theorem iteF' {c : Bool} {A B : Prop} (h : c = false) (b : B) : if c = true then A else B := by
  subst h
  simpa using b
/-- an error of the text -/
structure Ec (K : PySem.W.Frag) (mg : Str → Option Value) (nm : Str) (C : Addr) : Prop where
  g : mg nm = some (.ref C)
  x : PySem.W.excIn K C [.type "ValueError", .type "Exception", .type "BaseException", .type "object"] "ValueError.__new__" = true
  k : PySem.W.keepIn K (.ref C) = true
  b : PySem.W.subIn K (.ref C) (.type "BaseException") = some true
  t : PySem.W.typeIn K (.ref C) = some (.type "type")
/-- the class Tree, as isinstance asks it -/
structure TrI (K : PySem.W.Frag) (mg : Str → Option Value) (C : Addr) : Prop where
  cl : Cls K C
  mgC : mg "Tree" = some (.ref C)
  ha : PySem.W.findIn K (.ref C) "__class__" = some (some (.builtin "object.__class__"))
  hn : PySem.W.specialIn K (.builtin "object.__class__") "__get__" = some (some (.builtin "getset_descriptor.__get__"))
  ht : PySem.W.takesIn K (.builtin "object.__class__") = some true
  hm : PySem.W.mroIn K C (.type "object") = some true
  one : PySem.W.kitOne K (.ref C) (.ref C) = some true
  two : PySem.W.kitOne K (.type "dict") (.ref C) = some false
theorem scAT : FnScope ["thing", "name", "tree"] ["thing"] (defScope sAreTrees) := ⟨rfl, rfl, rfl, by decide +kernel, rfl, by decide +kernel, by decide +kernel⟩
/-- an entry of what may be trees: its name, whether a Tree stands there -/
def EnAt (C : Addr) (H : Hp) (kv : Key × V) (e : Str × Bool) : Prop := kv.1 = Sum.inr e.1 ∧ e.1.length ≤ 100000 ∧ ∃ a, kv.2 = .ref a ∧ ((e.2 = true ∧ ∃ dt ft, H a = some (.ins C dt ft)) ∨ (e.2 = false ∧ ∃ xs, H a = some (.dK xs)))
theorem EnAt.mono {C : Addr} {H H' : Hp} {kv : Key × V} {e : Str × Bool} (h : EnAt C H kv e) (s : ∀ a o, kv.2 = .ref a → H a = some o → H' a = some o) : EnAt C H' kv e := by
  obtain ⟨h1, h2, a, h3, h4⟩ := h
  refine ⟨h1, h2, a, h3, ?_⟩
  rcases h4 with ⟨x, dt, ft, y⟩ | ⟨x, xs, y⟩
  · exact .inl ⟨x, dt, ft, s _ _ h3 y⟩
  · exact .inr ⟨x, xs, s _ _ h3 y⟩
def EnsAt (C : Addr) (H : Hp) (kvs : List (Key × V)) (es : List (Str × Bool)) : Prop := kvs.length = es.length ∧ ∀ (i : Nat) kv e, kvs[i]? = some kv → es[i]? = some e → EnAt C H kv e
theorem EnsAt.mono {C : Addr} {H H' : Hp} {kvs : List (Key × V)} {es : List (Str × Bool)} (h : EnsAt C H kvs es) (s : ∀ kv ∈ kvs, ∀ a o, kv.2 = .ref a → H a = some o → H' a = some o) : EnsAt C H' kvs es := ⟨h.1, fun i kv e h1 h2 => (h.2 i kv e h1 h2).mono (s kv (List.mem_of_getElem? h1))⟩
theorem EnsAt.same {C : Addr} {H H' : Hp} {kvs : List (Key × V)} {es : List (Str × Bool)} (h : EnsAt C H kvs es) (s : Same H H') : EnsAt C H' kvs es := h.mono fun _ _ a o _ e => s a o e
def enB (e : Str × Bool) : Bool := nameB e.1 && e.2
inductive TrsAt (K : PySem.W.Frag) (C : Addr) (H : Hp) : V → Bool → Prop
  | oth {x : V} {n : String} (ty : TyX K H x (.type n)) (h : kitB n "dict" = some false) : TrsAt K C H x false
  | dic {d : Addr} {kvs : List (Key × V)} {es : List (Str × Bool)} (h : H d = some (.dK kvs)) (p : EnsAt C H kvs es) (l : kvs.length ≤ 100) (nd : ∀ kv ∈ kvs, kv.2 ≠ .ref d) : TrsAt K C H (.ref d) (decide (1 ≤ (kvs.length : Int)) && (decide ((kvs.length : Int) ≤ 8) && (es.map enB).all id))
def spTrees (K : PySem.W.Frag) (C : Addr) : Sp := fun vs H Q _ => ∃ x b, vs = [x] ∧ TrsAt K C H x b ∧ ∀ H', Same H H' → Q (.bl b) H'
section
variable {P : Program} {w : World} {K : PySem.W.Frag} {mg : Str → Option Value} {base : Heap}
theorem ok_trees {f C : Addr} {fd : FuncData} {k : Nat} (F : Fun K "are_trees" "are_trees" sAreTrees f fd) (B : Bi mg) (T : TrI K mg C) (N : Cl P w K mg base CX0 1 "is_name" ["thing"] (spName K)) : FnOk P w K mg base CX0 (k + 2) f fd ["thing"] (spTrees K C) := by
  refine F.ok scAT (fun vs H Q E h => ?_) (fun cdv A outer s H vs Q E hr h => ?_)
  · obtain ⟨x, b, rfl, _⟩ := h
    rfl
  · obtain ⟨x, b, rfl, hx, q⟩ := h
    refine ⟨_, pss_cons (ps_if (PW.pt (pw_or (pt_not (pt_val (pe_callB call_isi (by rfl) B.isin (by decide +kernel) (pa_cons (pv 0) (pa_cons (pe_bltn (v := .ty "dict") (by rfl) B.dict (by decide +kernel) rfl) pa_nil))))) (pw_or1 (pt_not (pt_chain op_le op_le pe_int (pe_callB call_lenD (by rfl) B.len PySem.boot_len (pa_cons (pv 0) pa_nil)) pe_int))))) (pss_one (ps_ret pe_bl)) pss_nil)
      (pss_one (ps_ret (pe_lock (pe_callB (cr_all rfl) (by rfl) B.all (by decide +kernel) (pa_cons (pe_lc (own := [("name", 1), ("tree", 2)]) (g := gTup K 2 (gCons (gName 1) (gCons (gName 2) gNil))) (tt := tYes) (by rfl) scAT.nd (pi_items (pv 0)) (blkOk_by (own := [("name", 1), ("tree", 2)]) (N := ["thing", "name", "tree"]) (sc := defScope sAreTrees) (by decide +kernel))
        (fun _ _ _ _ _ => pg_tup rfl (pgs_cons (pg_name (i := 1) scAT.nd rfl (Or.inl rfl)) (pgs_cons (pg_name (i := 2) scAT.nd rfl (Or.inl rfl)) pgs_nil))) (fun _ _ _ _ _ => pts_nil)
        (fun _ _ _ _ _ => pe_and (pe_cl N hr (by omega) (by rfl) pass0 (pa_cons (pv 1) pa_nil)) (pe_one (pe_callB (callIsiK (K := K) rfl) (by rfl) B.isin (by decide +kernel) (pa_cons (pv 2) (pa_cons (pe_glob (v := .ref C) (by rfl) T.mgC rfl) pa_nil)))))) pa_nil))))), ?_⟩
    cases hx with
    | oth ty h => exact ⟨_, rfl, _, .ty "dict", _, _, false, rfl, .ty _, ty, kit_ty h, _, rfl, iteT (iteT (q _ (Same.refl H)))⟩
    | @dic d kvs es hd p l nd =>
    refine ⟨_, rfl, _, .ty "dict", _, _, true, rfl, .ty _, .base (.dK hd), kit_ty (by decide +kernel), _, rfl, iteF ?_⟩
    refine ⟨_, rfl, d, _, rfl, hd, _, _, rfl, rfl, _, rfl, ?_⟩
    cases h1 : decide (1 ≤ (kvs.length : Int)) with
    | false =>
      rw [h1] at q
      exact iteF ⟨_, rfl, iteT (q _ (Same.refl H))⟩
    | true =>
    rw [h1] at q
    refine iteT ⟨_, _, rfl, rfl, _, rfl, ?_⟩
    cases h2 : decide ((kvs.length : Int) ≤ 8) with
    | false =>
      rw [h2] at q
      exact iteT (q _ (Same.refl H))
    | true =>
    rw [h2] at q
    refine iteF ⟨d, _, hd, trivial, fun od => ?_⟩
    refine ⟨_, rfl, d, od, _, rfl, upd_same, fun D hD => lc_it walk_items (fun i H' => H' D = some (.lst (((es.map enB).take i).map V.bl)) ∧ Same (upd H d (.frz od (.dK kvs))) H') ⟨upd_same, same_new hD⟩ (fun i H' _ h => h.2 _ _ upd_same) ?_ ?_⟩
    · rintro i x H1 H2 hi ⟨h3, sm⟩ ⟨T1, xx, yy, rfl, hT, rfl, hx, hy⟩
      have hke : kvs[i]? = some kvs[i] := List.getElem?_eq_getElem hi
      have hie : i < es.length := by rw [← p.1]; exact hi
      have hee : es[i]? = some es[i] := List.getElem?_eq_getElem hie
      obtain ⟨e1, e2, a, e3, e4⟩ := p.2 i _ _ hke hee
      have hx : kvs[i]?.map (fun kv => kV kv.1) = some xx := hx
      have hy : kvs[i]?.map Prod.snd = some yy := hy
      rw [hke] at hx hy
      generalize hz : es[i].1 = z at *
      have hx2 : kV kvs[i].1 = xx := Option.some.inj hx
      have hy2 : kvs[i].2 = yy := Option.some.inj hy
      rw [e1] at hx2
      rw [e3] at hy2
      subst hx2 hy2
      have sT := same_new (o := HO.tup [kV (Sum.inr z : Key), .ref a]) hT
      have fin : ∀ (H3 : Hp) (bb : Bool), Same (upd H1 T1 (.tup [kV (Sum.inr z : Key), .ref a])) H3 → bb = enB es[i] → ∃ acc, H3 D = some (.lst acc) ∧ acc.length < sizeLine ∧ (upd H3 D (.lst (acc ++ [.bl bb]))) D = some (.lst (((es.map enB).take (i + 1)).map V.bl)) ∧ Same (upd H d (.frz od (.dK kvs))) (upd H3 D (.lst (acc ++ [.bl bb]))) := fun H3 bb s3 eb => by
        refine ⟨_, s3 _ _ (sT _ _ h3), ?_, ?_, same_mut hD ((sm.trans sT).trans s3)⟩
        · rw [sizeLine_eq, List.length_map, List.length_take, List.length_map]
          omega
        · rw [upd_same, List.take_succ, List.getElem?_map, hee, eb]
          simp
      refine ⟨T1, _, rfl, SqT.of upd_same, rfl, _, _, rfl, _, _, rfl, rfl, rfl, _, rfl, _, _, rfl, .str z e2, fun H3 s3 => ⟨_, rfl, ?_⟩⟩
      have hdT : d ≠ T1 := fun z => by
        have := sm _ _ (upd_same (H := H) (a := d) (o := HO.frz od (.dK kvs)))
        rw [z, hT] at this
        cases this
      cases hn : nameB z with
      | false => exact iteF (fin H3 false s3 (by rw [enB, hz, hn]; rfl))
      | true =>
        refine iteT ⟨_, rfl, ?_⟩
        rcases e4 with ⟨et, dt, ft, ha⟩ | ⟨et, xs, ha⟩
        · have had : a ≠ d := ne_of ha hd (by intro z; cases z)
          have ha3 : H3 a = some (.ins C dt ft) := s3 _ _ (sT _ _ (sm _ _ (by rw [upd_ne had]; exact ha)))
          exact ⟨_, .ref C, _, _, true, rfl, .own C, .base (.ins ha3 T.cl T.ha T.hn T.ht T.hm), T.one, fin H3 true s3 (by rw [enB, hz, hn, et]; rfl)⟩
        · have had : a ≠ d := fun z => nd _ (List.mem_of_getElem? hke) (by rw [e3, z])
          have ha3 : H3 a = some (.dK xs) := s3 _ _ (sT _ _ (sm _ _ (by rw [upd_ne had]; exact ha)))
          exact ⟨_, .ref C, _, _, false, rfl, .own C, .base (.dK ha3), T.two, fin H3 false s3 (by rw [enB, hz, hn, et]; rfl)⟩
    · rintro H1 ⟨h3, sm⟩
      have hfin : ((es.map enB).take kvs.length).map V.bl = (es.map enB).map V.bl := by
        rw [p.1, List.take_of_length_le (by simp)]
      rw [hfin] at h3
      refine ⟨D, es.map enB, rfl, SqL.of h3, sm _ _ upd_same, q _ fun b o hb => ?_⟩
      by_cases e : b = d
      · subst e
        rw [hd] at hb
        cases hb
        exact upd_same
      · rw [upd_ne e]
        exact sm _ _ (by rw [upd_ne e]; exact hb)
end
end Tx
set_option autoImplicit true
set_option Elab.async false
set_option linter.all false
set_option maxRecDepth 100000
set_option maxHeartbeats 8000000
namespace Rp
open PySem PySem.Spec PyProof.Rows L2 Cm Ob Tx
abbrev sNewG : Stmt := inClass sTableC 13
abbrev sJoin : Stmt := inClass sTableC 14
abbrev sFollow : Stmt := inClass sTableC 15
abbrev sUnf : Stmt := inClass sTableC 16
abbrev sLeave : Stmt := inClass sTableC 17
abbrev sEnd : Stmt := inClass sTableC 18
theorem scNewG : FnScope ["self", "master", "group"] ["self", "master"] (defScope sNewG) := ⟨rfl, rfl, rfl, by decide +kernel, rfl, by decide +kernel, by decide +kernel⟩
theorem scJoin : FnScope ["self", "mount", "group"] ["self", "mount", "group"] (defScope sJoin) := ⟨rfl, rfl, rfl, by decide +kernel, rfl, by decide +kernel, by decide +kernel⟩
theorem scFollow : FnScope ["self", "mount", "group"] ["self", "mount", "group"] (defScope sFollow) := ⟨rfl, rfl, rfl, by decide +kernel, rfl, by decide +kernel, by decide +kernel⟩
theorem scUnf : FnScope ["self", "mount"] ["self", "mount"] (defScope sUnf) := ⟨rfl, rfl, rfl, by decide +kernel, rfl, by decide +kernel, by decide +kernel⟩
theorem scLeave : FnScope ["self", "mount", "group"] ["self", "mount"] (defScope sLeave) := ⟨rfl, rfl, rfl, by decide +kernel, rfl, by decide +kernel, by decide +kernel⟩
theorem scEnd : FnScope ["self", "group", "master", "number", "other", "one"] ["self", "group"] (defScope sEnd) := ⟨rfl, rfl, rfl, by decide +kernel, rfl, by decide +kernel, by decide +kernel⟩
/-- sizes within the line -/
structure Sz (B : Nat) (t : Tb) : Prop where
  b : B ≤ 90000
  kn : t.kn.length ≤ B
  kp : t.kp.length ≤ B
  ts : t.ts.length ≤ B
  os : t.os.length ≤ B
  gm : t.gm.length ≤ B
  gb : t.gb.length ≤ B
  gh : t.gh.length ≤ B
  me : ∀ g, (t.me g).length ≤ B
  be : ∀ g, (t.be g).length ≤ B
theorem Sz.lt {B : Nat} {t : Tb} (z : Sz B t) {n : Nat} (h : n ≤ B) : n < sizeLine := sz5 (by have := z.b; omega)
def Tb.newG (t : Tb) (m : Option Int) : Tb := { t with cg := t.cg + 1, gm := t.gm ++ [t.cg], ms := fu t.ms t.cg m, gb := t.gb ++ [t.cg], me := fu t.me t.cg [], gh := t.gh ++ [t.cg], be := fu t.be t.cg [] }
/-- the promise of a method that turns the table t into t' -/
def spNewG (CT CM : Addr) : Sp := fun vs H Q _ => ∃ d t m B, vs = [.ref (d.a .tab), oi m] ∧ TabAt CT CM H d t ∧ Sz B t ∧ t.cg ∉ t.gm ∧ t.cg ∉ t.gb ∧ t.cg ∉ t.gh ∧ ∀ H' d', TabAt CT CM H' d' (t.newG m) → Fr H d t H' d' (t.newG m) → d'.a .tab = d.a .tab → (∀ n, d'.a (.mt n) = d.a (.mt n)) → Q (.int t.cg) H'
section
variable {P : Program} {w : World} {K : PySem.W.Frag} {mg : Str → Option Value} {base : Heap} {CM CT : Addr}
theorem ok_newG {f fN : Addr} {fd fdN : FuncData} {k : Nat} (F : Fun K "new_group" "Table.new_group" sNewG f fd) (c : Cn K CT tbN) (mN : Meth K CT "next" fN) (FN : FnOk P w K mg base CX0 1 fN fdN ["self", "what"] (spNext CT)) (bN : Binds K fdN ["self", "what"] []) : FnOk P w K mg base CX0 (k + 2) f fd ["self", "master"] (spNewG CT CM) := by
  refine F.ok scNewG (fun vs H Q E h => ?_) (fun cdv A outer s H vs Q E hr h => ?_)
  · obtain ⟨d, t, m, B, rfl, _⟩ := h
    rfl
  · obtain ⟨d, t, m, B, rfl, h, z, n1, n2, n3, q⟩ := h
    have hr1 : Room 1 (cxOf CX0 P w K mg base ["self", "master", "group"] "Table.new_group" (defScope sNewG) f cdv A outer s H E).nox.A := hr.mono (by omega)
    have hu := units1 hr1
    refine ⟨_, pss_cons (ps_set (i := 2) scNewG.nd rfl (.inl rfl) (pe_meth (pv 0) c.cl mN FN hr1 bN .nil pass0 (pa_cons pe_str pa_nil)))
      (pss_cons (ps_dput hu (pe_fld (pv 0) rfl) (pv 2) (pv 1) rfl)
      (pss_cons (ps_dput hu (pe_fld (pv 0) rfl) (pv 2) pe_dnewK rfl)
      (pss_cons (ps_dput hu (pe_fld (pv 0) rfl) (pv 2) pe_dnewK rfl)
      (pss_one (ps_ret (pv 2)))))), ?_⟩
    refine ⟨_, rfl, d.a .tab, d.dT, _, rfl, h.all .tab trivial, rfl, d.a .tab, d.dT, _, d.a .ct, _, "group", t.cg, rfl, h.all .tab trivial, rfl, h.all .ct trivial, rfl, by show 3 ≤ 100; decide, fun H1 b1 hc1 => ?_⟩
    obtain ⟨h1, f1⟩ := h.mut (t' := { t with cg := t.cg + 1 }) (r0 := .ct) (fun r => by cases r <;> exact Iff.rfl) trivial b1 hc1 (fun r l ne => by cases r <;> first | rfl | exact absurd rfl ne)
    -- masters
    refine ⟨_, rfl, _, rfl, d.a .tab, CT, d.dT, _, .ref (d.a .ms), rfl, h1.all .tab trivial, c.cl, c.no _ (by decide +kernel), rfl, _, rfl, d.a .ms, _, rfl, DPut.k (k := (Sum.inl t.cg : Key)) (h1.all .ms trivial) (z.lt (by rw [dk_len]; exact z.gm)), ?_⟩
    obtain ⟨h2, f2⟩ := h1.mut (t' := { t with cg := t.cg + 1, gm := t.gm ++ [t.cg], ms := fu t.ms t.cg m }) (r0 := .ms) (H' := upd H1 (d.a .ms) (.dK (putK (dk t.gm fun g => oi (t.ms g)) (Sum.inl t.cg) (oi m)))) (fun r => by cases r <;> exact Iff.rfl) trivial But.upd (by
      rw [upd_same, put_dk_new n1, fu_map (F := oi)]
      rfl) (fun r l ne => by cases r <;> first | rfl | exact absurd rfl ne)
    -- members
    generalize hH2 : upd H1 (d.a .ms) (.dK (putK (dk t.gm fun g => oi (t.ms g)) (Sum.inl t.cg) (oi m))) = H2 at h2 f2 ⊢
    intro p1 hp1
    have c3 := same_new (o := HO.dK []) hp1
    have h2' := h2.same c3
    refine ⟨_, rfl, d.a .tab, CT, d.dT, _, .ref (d.a .mb), rfl, h2'.all .tab trivial, c.cl, c.no _ (by decide +kernel), rfl, _, rfl, d.a .mb, _, rfl, DPut.k (k := (Sum.inl t.cg : Key)) (h2'.all .mb trivial) (z.lt (by rw [dk_len]; exact z.gb)), ?_⟩
    have np1 : p1 ≠ d.a .mb := h2.out hp1 .mb trivial
    obtain ⟨h3, f3⟩ := h2.add (t' := { t with cg := t.cg + 1, gm := t.gm ++ [t.cg], ms := fu t.ms t.cg m, gb := t.gb ++ [t.cg], me := fu t.me t.cg [] }) (r0 := .mb) (r1 := .me t.cg) (H' := upd (upd H2 p1 (.dK [])) (d.a .mb) (.dK (putK (dk t.gb fun g => .ref (d.a (.me g))) (Sum.inl t.cg) (.ref p1)))) hp1
      (fun r => by
        cases r <;> first | exact ⟨fun _ => .inl trivial, fun _ => trivial⟩ | exact ⟨.inl, fun z => z.resolve_right (fun e => by cases e)⟩ | skip
        show _ ∈ t.gb ++ [t.cg] ↔ _ ∈ t.gb ∨ _
        rw [List.mem_append, List.mem_singleton]
        exact or_congr_right ⟨fun e => by rw [e], fun e => by cases e; rfl⟩) n2 trivial
      (by rw [upd_ne np1, upd_same]; show some (HO.dK []) = some (set1 (fu t.me t.cg [] t.cg)); rw [fu_same]; rfl)
      (by
        rw [upd_same, put_dk_new n2]
        refine congrArg some (congrArg HO.dK (dk_cong fun g _ => ?_))
        by_cases e : g = t.cg
        · rw [e, fu_same, Ad.put_same]
        · rw [fu_ne e, Ad.put_ne (fun x => e (Role.me.inj x))])
      ((Same.but _ c3).trans But.upd)
      (fun r l ne => by
        cases r <;> first | rfl | exact absurd rfl ne | skip
        rename_i g
        have e : g ≠ t.cg := fun e => n2 (by rw [← e]; exact l)
        show set1 (fu t.me t.cg [] g) = set1 (t.me g)
        rw [fu_ne e])
    generalize hH3 : upd (upd H2 p1 (.dK [])) (d.a .mb) (.dK (putK (dk t.gb fun g => .ref (d.a (.me g))) (Sum.inl t.cg) (.ref p1))) = H3 at h3 f3 ⊢
    -- behind
    intro p2 hp2
    have c4 := same_new (o := HO.dK []) hp2
    have h3' := h3.same c4
    refine ⟨_, rfl, d.a .tab, CT, d.dT, _, .ref (d.a .bh), rfl, h3'.all .tab trivial, c.cl, c.no _ (by decide +kernel), rfl, _, rfl, d.a .bh, _, rfl, DPut.k (k := (Sum.inl t.cg : Key)) (h3'.all .bh trivial) (z.lt (by rw [dk_len]; exact z.gh)), ?_⟩
    have np2 : p2 ≠ d.a .bh := h3.out hp2 .bh trivial
    obtain ⟨h4, f4⟩ := h3.add (t' := t.newG m) (r0 := .bh) (r1 := .be t.cg) (H' := upd (upd H3 p2 (.dK [])) (d.a .bh) (.dK (putK (dk t.gh fun g => .ref (d.a (.be g))) (Sum.inl t.cg) (.ref p2)))) hp2
      (fun r => by
        cases r <;> first | exact ⟨fun _ => .inl trivial, fun _ => trivial⟩ | exact ⟨.inl, fun z => z.resolve_right (fun e => by cases e)⟩ | skip
        show _ ∈ t.gh ++ [t.cg] ↔ _ ∈ t.gh ∨ _
        rw [List.mem_append, List.mem_singleton]
        exact or_congr_right ⟨fun e => by rw [e], fun e => by cases e; rfl⟩) n3 trivial
      (by rw [upd_ne np2, upd_same]; show some (HO.dK []) = some (set1 (fu t.be t.cg [] t.cg)); rw [fu_same]; rfl)
      (by
        show upd _ _ _ (d.a .bh) = _
        rw [upd_same, put_dk_new n3]
        refine congrArg some (congrArg HO.dK (dk_cong fun g _ => ?_))
        by_cases e : g = t.cg
        · rw [e, fu_same, Ad.put_same]
        · rw [fu_ne e, Ad.put_ne (fun x => e (Role.be.inj x))]
          rfl)
      ((Same.but _ c4).trans But.upd)
      (fun r l ne => by
        cases r <;> first | rfl | exact absurd rfl ne | skip
        rename_i g
        have e : g ≠ t.cg := fun e => n3 (by rw [← e]; exact l)
        show set1 (fu t.be t.cg [] g) = set1 (t.be g)
        rw [fu_ne e])
    exact ⟨_, rfl, q _ _ h4 (f1.trans (f2.trans (f3.trans f4))) rfl fun n => rfl⟩
end
end Rp
set_option autoImplicit true
set_option Elab.async false
set_option linter.all false
set_option maxRecDepth 100000
set_option maxHeartbeats 8000000
namespace Rp
open PySem PySem.Spec PyProof.Rows L2 Cm Ob Tx
/-- o.f as a target -/
def gFld (K : PySem.W.Frag) (ta : TE) (f : Str) : TG := fun y σ H Q => ta σ H fun x H2 => ∃ a C dx fs, x = .ref a ∧ H2 a = some (.ins C dx fs) ∧ Cls K C ∧ NoAttr K C f ∧ fs.length < 1000 ∧ Q σ (upd H2 a (.ins C dx (putF f y fs)))
theorem pg_fld {X : Cx} {o : Expr} {ta : TE} {f : Str} {pos : Pos} (ho : PE X o ta) : PG X (.Attribute o f pos) (gFld X.K ta f) := by
  constructor
  intro pins s σ H v u Q I r h
  rw [assign_Attribute]
  refine wpAny_bind (wpAny_holding (thn (ho.run pins s σ H _ I h) fun ov s1 ⟨x, H1, I1, rx, a, C, dx, fs, ex, ea, c, n, l, q⟩ => ?_))
  subst ex
  cases (show ov = Value.ref a from rx)
  refine wpAny_bind (wpAny_standAt (wpAny_bind (wpAny_holding (setattr_ok I1 ea c n l r fun s3 I3 => ?_))))
  exact wpAny_release ⟨σ, _, I3, q⟩
def addK (l : List Int) (n : Int) : List Int := if n ∈ l then l else l ++ [n]
theorem addK_len (l : List Int) (n : Int) : (addK l n).length ≤ l.length + 1 := by
  unfold addK
  split
  · omega
  · rw [List.length_append]
    exact Nat.le_refl _
theorem put_set (l : List Int) (n : Int) : HO.dK (putK (dk l fun _ => .bl true) (Sum.inl n : Key) (.bl true)) = set1 (addK l n) := by
  unfold set1 addK
  by_cases h : n ∈ l
  · rw [put_dk h, if_pos h]
    exact congrArg HO.dK (dk_cong fun k _ => by unfold fu; split <;> rfl)
  · rw [put_dk_new h, if_neg h]
    exact congrArg HO.dK (dk_cong fun k _ => by unfold fu; split <;> rfl)
theorem drop_set (l : List Int) (n : Int) : HO.dK (dropK (dk l fun _ => .bl true) (Sum.inl n : Key)) = set1 (del l n) := congrArg HO.dK (drop_dk l _ n)
theorem del_len (l : List Int) (n : Int) : (del l n).length ≤ l.length := List.length_filter_le _ _
/-- one mount otherwise -/
def Tb.setM (t : Tb) (n : Int) (m : Mn) : Tb := { t with mn := fu t.mn n m }
def Tb.setMe (t : Tb) (g : Int) (l : List Int) : Tb := { t with me := fu t.me g l }
def Tb.setBe (t : Tb) (g : Int) (l : List Int) : Tb := { t with be := fu t.be g l }
section
variable {CT CM : Addr} {H H' : Hp} {d : Ad} {t : Tb}
theorem TabAt.setM {n : Int} {m : Mn} (h : TabAt CT CM H d t) (l : n ∈ t.kn) (b : But (d.a (.mt n)) H H') (h0 : H' (d.a (.mt n)) = some (.ins CM (d.dm n) (mnF n m))) : TabAt CT CM H' d (t.setM n m) ∧ Fr H d t H' d (t.setM n m) :=
  h.mut (r0 := .mt n) (fun r => by cases r <;> exact Iff.rfl) l b (h0.trans (congrArg some (by show HO.ins CM (d.dm n) (mnF n m) = HO.ins CM (d.dm n) (mnF n (fu t.mn n m n)); rw [fu_same]))) fun r lr ne => by
    cases r <;> first | rfl | skip
    rename_i k
    show HO.ins CM (d.dm k) (mnF k (fu t.mn n m k)) = HO.ins CM (d.dm k) (mnF k (t.mn k))
    rw [fu_ne (fun e => ne (by rw [e]))]
theorem TabAt.setMe {g : Int} {l : List Int} (h : TabAt CT CM H d t) (hg : g ∈ t.gb) (b : But (d.a (.me g)) H H') (h0 : H' (d.a (.me g)) = some (set1 l)) : TabAt CT CM H' d (t.setMe g l) ∧ Fr H d t H' d (t.setMe g l) :=
  h.mut (r0 := .me g) (fun r => by cases r <;> exact Iff.rfl) hg b (h0.trans (congrArg some (by show set1 l = set1 (fu t.me g l g); rw [fu_same]))) fun r lr ne => by
    cases r <;> first | rfl | skip
    rename_i k
    show set1 (fu t.me g l k) = set1 (t.me k)
    rw [fu_ne (fun e => ne (by rw [e]))]
theorem TabAt.setBe {g : Int} {l : List Int} (h : TabAt CT CM H d t) (hg : g ∈ t.gh) (b : But (d.a (.be g)) H H') (h0 : H' (d.a (.be g)) = some (set1 l)) : TabAt CT CM H' d (t.setBe g l) ∧ Fr H d t H' d (t.setBe g l) :=
  h.mut (r0 := .be g) (fun r => by cases r <;> exact Iff.rfl) hg b (h0.trans (congrArg some (by show set1 l = set1 (fu t.be g l g); rw [fu_same]))) fun r lr ne => by
    cases r <;> first | rfl | skip
    rename_i k
    show set1 (fu t.be g l k) = set1 (t.be k)
    rw [fu_ne (fun e => ne (by rw [e]))]
theorem TabAt.updM {n : Int} {m : Mn} {o : HO} (h : TabAt CT CM H d t) (l : n ∈ t.kn) (ho : o = .ins CM (d.dm n) (mnF n m)) : TabAt CT CM (upd H (d.a (.mt n)) o) d (t.setM n m) ∧ Fr H d t (upd H (d.a (.mt n)) o) d (t.setM n m) := h.setM l But.upd (by rw [upd_same, ho])
theorem TabAt.updMe {g : Int} {l : List Int} {o : HO} (h : TabAt CT CM H d t) (hg : g ∈ t.gb) (ho : o = set1 l) : TabAt CT CM (upd H (d.a (.me g)) o) d (t.setMe g l) ∧ Fr H d t (upd H (d.a (.me g)) o) d (t.setMe g l) := h.setMe hg But.upd (by rw [upd_same, ho])
theorem TabAt.updBe {g : Int} {l : List Int} {o : HO} (h : TabAt CT CM H d t) (hg : g ∈ t.gh) (ho : o = set1 l) : TabAt CT CM (upd H (d.a (.be g)) o) d (t.setBe g l) ∧ Fr H d t (upd H (d.a (.be g)) o) d (t.setBe g l) := h.setBe hg But.upd (by rw [upd_same, ho])
end
def Tb.join (t : Tb) (n g : Int) : Tb := (t.setM n { t.mn n with gr := some g, fo := none }).setMe g (addK (t.me g) n)
def Tb.follow (t : Tb) (n : Int) : Option Int → Tb
  | none => t.setM n { t.mn n with gr := none, fo := none }
  | some g => (t.setM n { t.mn n with gr := none, fo := some g }).setBe g (addK (t.be g) n)
def Tb.unf (t : Tb) (n : Int) : Tb := match (t.mn n).fo with
  | none => t
  | some g => (t.setBe g (del (t.be g) n)).setM n { t.mn n with fo := none }
def spJoin (CT CM : Addr) : Sp := fun vs H Q _ => ∃ d t B n g, vs = [.ref (d.a .tab), .ref (d.a (.mt n)), .int g] ∧ TabAt CT CM H d t ∧ Sz B t ∧ n ∈ t.kn ∧ g ∈ t.gb ∧ ∀ H', TabAt CT CM H' d (t.join n g) → Fr H d t H' d (t.join n g) → Q .non H'
def spFollow (CT CM : Addr) : Sp := fun vs H Q _ => ∃ d t B n g, vs = [.ref (d.a .tab), .ref (d.a (.mt n)), oi g] ∧ TabAt CT CM H d t ∧ Sz B t ∧ n ∈ t.kn ∧ (∀ k, g = some k → k ∈ t.gh) ∧ ∀ H', TabAt CT CM H' d (t.follow n g) → Fr H d t H' d (t.follow n g) → Q .non H'
def spUnf (CT CM : Addr) : Sp := fun vs H Q _ => ∃ d t n, vs = [.ref (d.a .tab), .ref (d.a (.mt n))] ∧ TabAt CT CM H d t ∧ n ∈ t.kn ∧ (∀ k, (t.mn n).fo = some k → k ∈ t.gh ∧ n ∈ t.be k) ∧ ∀ H', TabAt CT CM H' d (t.unf n) → Fr H d t H' d (t.unf n) → Q .non H'
section
variable {P : Program} {w : World} {K : PySem.W.Frag} {mg : Str → Option Value} {base : Heap} {CM CT : Addr}
theorem ok_join {f : Addr} {fd : FuncData} {k : Nat} (F : Fun K "join" "Table.join" sJoin f fd) (c : Cn K CT tbN) (cM : Cn K CM mtN) : FnOk P w K mg base CX0 (k + 1) f fd ["self", "mount", "group"] (spJoin CT CM) := by
  refine F.ok scJoin (fun vs H Q E h => ?_) (fun cdv A outer s H vs Q E hr h => ?_)
  · obtain ⟨d, t, B, n, g, rfl, _⟩ := h
    rfl
  · obtain ⟨d, t, B, n, g, rfl, h, z, ln, lg, q⟩ := h
    have hu := units1 hr
    refine ⟨_, pss_cons (ps_asg (pe_tup (pa_cons (pv 2) (pa_cons pe_non pa_nil))) (pg_tup rfl (pgs_cons (pg_fld (pv 1)) (pgs_cons (pg_fld (pv 1)) pgs_nil))))
      (pss_one (ps_dput hu (pe_dget hu (pe_fld (pv 0) rfl) (pv 2) (fun _ _ => rfl)) (pe_fld (pv 1) rfl) pe_bl rfl)), ?_⟩
    refine ⟨_, rfl, by show 2 ≤ sizeLine; decide, fun p hp => ?_⟩
    have c1 := same_new (o := HO.tup [.int g, .non]) hp
    have h1 := h.same c1
    refine ⟨p, _, rfl, SqT.of upd_same, rfl, _, _, rfl, _, rfl, d.a (.mt n), CM, d.dm n, _, rfl, h1.all (.mt n) ln, cM.cl, cM.no _ (by decide +kernel), by show 11 < 1000; decide, _, _, rfl, _, rfl, d.a (.mt n), CM, d.dm n, _, rfl, upd_same, cM.cl, cM.no _ (by decide +kernel), by show 11 < 1000; decide, rfl, ?_⟩
    obtain ⟨h2, f2⟩ := h1.setM (H' := upd (upd (upd H p (.tup [.int g, .non])) (d.a (.mt n)) (.ins CM (d.dm n) (putF "group" (.int g) (mnF n (t.mn n))))) (d.a (.mt n)) (.ins CM (d.dm n) (putF "follows" .non (putF "group" (.int g) (mnF n (t.mn n)))))) (m := { t.mn n with gr := some g, fo := none }) ln (But.upd.trans But.upd) upd_same
    generalize hH2 : upd (upd (upd H p (.tup [.int g, .non])) (d.a (.mt n)) (.ins CM (d.dm n) (putF "group" (.int g) (mnF n (t.mn n))))) (d.a (.mt n)) (.ins CM (d.dm n) (putF "follows" .non (putF "group" (.int g) (mnF n (t.mn n))))) = H2 at h2 f2 ⊢
    refine ⟨_, rfl, d.a .tab, CT, d.dT, _, .ref (d.a .mb), rfl, h2.all .tab trivial, c.cl, c.no _ (by decide +kernel), rfl, _, rfl, d.a .mb, .ref (d.a (.me g)), rfl, ?_, _, rfl, d.a (.mt n), CM, d.dm n, _, .int n, rfl, h2.all (.mt n) ln, cM.cl, cM.no _ (by decide +kernel), rfl, d.a (.me g), _, rfl, DPut.k (k := (Sum.inl n : Key)) (h2.all (.me g) lg) (z.lt (by rw [dk_len]; exact z.me g)), ?_⟩
    · rw [← val_dk (f := fun g => V.ref (d.a (.me g))) lg]
      exact DGet.k (k := (Sum.inl g : Key)) (h2.all .mb trivial)
    · obtain ⟨h3, f3⟩ := h2.updMe lg (put_set (t.me g) n)
      exact q _ h3 ((Fr.same h c1).trans (f2.trans f3))
theorem ok_follow {f : Addr} {fd : FuncData} {k : Nat} (F : Fun K "follow" "Table.follow" sFollow f fd) (c : Cn K CT tbN) (cM : Cn K CM mtN) : FnOk P w K mg base CX0 (k + 1) f fd ["self", "mount", "group"] (spFollow CT CM) := by
  refine F.ok scFollow (fun vs H Q E h => ?_) (fun cdv A outer s H vs Q E hr h => ?_)
  · obtain ⟨d, t, B, n, g, rfl, _⟩ := h
    rfl
  · obtain ⟨d, t, B, n, g, rfl, h, z, ln, lg, q⟩ := h
    have hu := units1 hr
    refine ⟨_, pss_cons (ps_asg (pe_tup (pa_cons pe_non (pa_cons (pv 2) pa_nil))) (pg_tup rfl (pgs_cons (pg_fld (pv 1)) (pgs_cons (pg_fld (pv 1)) pgs_nil))))
      (pss_one (ps_if (pt_cmpR op_notN (pv 2) pe_non (nomark _)) (pss_one (ps_dput hu (pe_dget hu (pe_fld (pv 0) rfl) (pv 2) (fun _ _ => rfl)) (pe_fld (pv 1) rfl) pe_bl rfl)) pss_nil)), ?_⟩
    refine ⟨_, rfl, by show 2 ≤ sizeLine; decide, fun p hp => ?_⟩
    have c1 := same_new (o := HO.tup [.non, oi g]) hp
    have h1 := h.same c1
    refine ⟨p, _, rfl, SqT.of upd_same, rfl, _, _, rfl, _, rfl, d.a (.mt n), CM, d.dm n, _, rfl, h1.all (.mt n) ln, cM.cl, cM.no _ (by decide +kernel), by show 11 < 1000; decide, _, _, rfl, _, rfl, d.a (.mt n), CM, d.dm n, _, rfl, upd_same, cM.cl, cM.no _ (by decide +kernel), by show 11 < 1000; decide, rfl, ?_⟩
    obtain ⟨h2, f2⟩ := h1.setM (H' := upd (upd (upd H p (.tup [.non, oi g])) (d.a (.mt n)) (.ins CM (d.dm n) (putF "group" .non (mnF n (t.mn n))))) (d.a (.mt n)) (.ins CM (d.dm n) (putF "follows" (oi g) (putF "group" .non (mnF n (t.mn n)))))) (m := { t.mn n with gr := none, fo := g }) ln (But.upd.trans But.upd) upd_same
    generalize hH2 : upd (upd (upd H p (.tup [.non, oi g])) (d.a (.mt n)) (.ins CM (d.dm n) (putF "group" .non (mnF n (t.mn n))))) (d.a (.mt n)) (.ins CM (d.dm n) (putF "follows" (oi g) (putF "group" .non (mnF n (t.mn n))))) = H2 at h2 f2 ⊢
    cases g with
    | none => exact ⟨_, rfl, rfl, _, rfl, iteF (q _ h2 ((Fr.same h c1).trans f2))⟩
    | some g =>
      have lg' := lg g rfl
      refine ⟨_, rfl, rfl, _, rfl, iteT ?_⟩
      refine ⟨_, rfl, d.a .tab, CT, d.dT, _, .ref (d.a .bh), rfl, h2.all .tab trivial, c.cl, c.no _ (by decide +kernel), rfl, _, rfl, d.a .bh, .ref (d.a (.be g)), rfl, ?_, _, rfl, d.a (.mt n), CM, d.dm n, _, .int n, rfl, h2.all (.mt n) ln, cM.cl, cM.no _ (by decide +kernel), rfl, d.a (.be g), _, rfl, DPut.k (k := (Sum.inl n : Key)) (h2.all (.be g) lg') (z.lt (by rw [dk_len]; exact z.be g)), ?_⟩
      · rw [← val_dk (f := fun g => V.ref (d.a (.be g))) lg']
        exact DGet.k (k := (Sum.inl g : Key)) (h2.all .bh trivial)
      · obtain ⟨h3, f3⟩ := h2.updBe lg' (put_set (t.be g) n)
        exact q _ h3 ((Fr.same h c1).trans (f2.trans f3))
theorem ok_unf {f : Addr} {fd : FuncData} {k : Nat} (F : Fun K "unfollow" "Table.unfollow" sUnf f fd) (c : Cn K CT tbN) (cM : Cn K CM mtN) : FnOk P w K mg base CX0 (k + 1) f fd ["self", "mount"] (spUnf CT CM) := by
  refine F.ok scUnf (fun vs H Q E h => ?_) (fun cdv A outer s H vs Q E hr h => ?_)
  · obtain ⟨d, t, n, rfl, _⟩ := h
    rfl
  · obtain ⟨d, t, n, rfl, h, ln, lg, q⟩ := h
    have hu := units1 hr
    refine ⟨_, pss_one (ps_if (pt_cmpR op_notN (pe_fld (pv 1) rfl) pe_non (nomark _)) (pss_cons (ps_ddel (pe_dget hu (pe_fld (pv 0) rfl) (pe_fld (pv 1) rfl) (fun _ _ => rfl)) (pe_fld (pv 1) rfl)) (pss_one (ps_fld (pv 1) pe_non rfl))) pss_nil), ?_⟩
    refine ⟨_, rfl, d.a (.mt n), CM, d.dm n, _, oi (t.mn n).fo, rfl, h.all (.mt n) ln, cM.cl, cM.no _ (by decide +kernel), rfl, rfl, _, rfl, ?_⟩
    cases e : (t.mn n).fo with
    | none =>
      have eq : t.unf n = t := by
        unfold Tb.unf
        rw [e]
      rw [eq] at q
      exact iteF (q H h (Fr.refl _ _ _))
    | some g =>
      obtain ⟨lg1, lg2⟩ := lg g e
      have eq : t.unf n = (t.setBe g (del (t.be g) n)).setM n { t.mn n with fo := none } := by
        unfold Tb.unf
        rw [e]
      rw [eq] at q
      have hl : (mnF n (t.mn n)).lookup ("follows" : Str) = some (.int g) := by
        show some (oi (t.mn n).fo) = _
        rw [e]
        rfl
      refine iteT ?_
      refine ⟨_, rfl, d.a .tab, CT, d.dT, _, .ref (d.a .bh), rfl, h.all .tab trivial, c.cl, c.no _ (by decide +kernel), rfl, _, rfl, d.a (.mt n), CM, d.dm n, _, .int g, rfl, h.all (.mt n) ln, cM.cl, cM.no _ (by decide +kernel), hl, d.a .bh, .ref (d.a (.be g)), rfl, ?_, _, rfl, d.a (.mt n), CM, d.dm n, _, .int n, rfl, h.all (.mt n) ln, cM.cl, cM.no _ (by decide +kernel), rfl, d.a (.be g), _, Sum.inl n, rfl, h.all (.be g) lg1, rfl, ?_, ?_⟩
      · rw [← val_dk (f := fun g => V.ref (d.a (.be g))) lg1]
        exact DGet.k (k := (Sum.inl g : Key)) (h.all .bh trivial)
      · rw [val_dk lg2]
        rfl
      · obtain ⟨h3, f3⟩ := h.updBe lg1 (drop_set (t.be g) n)
        refine ⟨_, rfl, d.a (.mt n), CM, d.dm n, _, rfl, h3.all (.mt n) ln, cM.cl, cM.no _ (by decide +kernel), by show 11 < 1000; decide, ?_⟩
        obtain ⟨h4, f4⟩ := h3.updM (m := { t.mn n with fo := none }) (o := .ins CM (d.dm n) (putF "follows" .non (mnF n (t.mn n)))) ln rfl
        exact q _ h4 (f3.trans f4)
end
end Rp
set_option autoImplicit true
set_option Elab.async false
set_option linter.all false
set_option maxRecDepth 100000
set_option maxHeartbeats 8000000
namespace Rp
open PySem PySem.Spec PyProof.Rows L2 Cm Ob Tx
def folM (m : Option Int) (l : List Int) (t : Tb) : Tb := l.foldl (fun t n => t.follow n m) t
/-- a group that ends -/
def Tb.ends (t : Tb) (g : Int) : Tb :=
  let t2 := folM (t.ms g) (t.be g) { t with gm := del t.gm g, gb := del t.gb g, gh := del t.gh g }
  { t2 with ms := fun k => if k ∈ t2.gm ∧ t2.ms k = some g then t.ms g else t2.ms k }
theorem follow_ms (t : Tb) (n : Int) (g : Option Int) : (t.follow n g).ms = t.ms ∧ (t.follow n g).gm = t.gm ∧ (t.follow n g).gh = t.gh ∧ (t.follow n g).gb = t.gb ∧ (t.follow n g).kn = t.kn := by
  cases g <;> exact ⟨rfl, rfl, rfl, rfl, rfl⟩
theorem Sz.follow {B : Nat} {t : Tb} (z : Sz B t) (hB : B + 1 ≤ 90000) (n : Int) (g : Option Int) : Sz (B + 1) (t.follow n g) := by
  have up : ∀ {a : Nat}, a ≤ B → a ≤ B + 1 := fun h => Nat.le_succ_of_le h
  cases g with
  | none => exact ⟨hB, up z.kn, up z.kp, up z.ts, up z.os, up z.gm, up z.gb, up z.gh, fun g => up (z.me g), fun g => up (z.be g)⟩
  | some k =>
    refine ⟨hB, up z.kn, up z.kp, up z.ts, up z.os, up z.gm, up z.gb, up z.gh, fun g => up (z.me g), fun g => ?_⟩
    show (fu t.be k (addK (t.be k) n) g).length ≤ B + 1
    by_cases e : g = k
    · rw [e, fu_same]
      exact Nat.le_trans (addK_len _ _) (Nat.succ_le_succ (z.be k))
    · rw [fu_ne e]
      exact up (z.be g)
theorem folM_snoc (m : Option Int) (l : List Int) (n : Int) (t : Tb) : folM m (l ++ [n]) t = (folM m l t).follow n m := by
  unfold folM
  rw [List.foldl_append]
  rfl
theorem folM_ms (m : Option Int) : ∀ (l : List Int) (t : Tb), (folM m l t).ms = t.ms ∧ (folM m l t).gm = t.gm ∧ (folM m l t).gh = t.gh ∧ (folM m l t).gb = t.gb ∧ (folM m l t).kn = t.kn
  | [], t => ⟨rfl, rfl, rfl, rfl, rfl⟩
  | n :: l, t => by
    obtain ⟨a1, a2, a3, a4, a5⟩ := folM_ms m l (t.follow n m)
    obtain ⟨b1, b2, b3, b4, b5⟩ := follow_ms t n m
    exact ⟨a1.trans b1, a2.trans b2, a3.trans b3, a4.trans b4, a5.trans b5⟩
theorem folM_sz (m : Option Int) : ∀ (l : List Int) (t : Tb) (B : Nat), Sz B t → B + l.length ≤ 90000 → Sz (B + l.length) (folM m l t)
  | [], t, B, z, _ => z
  | n :: l, t, B, z, h => by
    have e : B + (n :: l).length = (B + 1) + l.length := by
      rw [List.length_cons]
      omega
    rw [e] at h ⊢
    exact folM_sz m l (t.follow n m) (B + 1) (z.follow (by omega) n m) h
section
variable {CT CM : Addr} {H H' : Hp} {d : Ad} {t t' : Tb}
theorem TabAt.updOut {b : Addr} {u : HO} (h : TabAt CT CM H d t) (o : Out d t b) : TabAt CT CM (upd H b u) d t := ⟨fun r l => by rw [upd_ne (Ne.symm (o r l))]; exact h.all r l, h.inj⟩
theorem Fr.updOut {H0 H2 : Hp} {d0 d2 : Ad} {t0 t2 : Tb} {r : Role} {u : HO} (a : Fr H0 d0 t0 H d t) (b : Fr H d t H2 d2 t2) (l : live t r) : Fr H0 d0 t0 (upd H2 (d.a r) u) d2 t2 := fun c o hc q => by
  obtain ⟨h1, q1⟩ := a c o hc q
  obtain ⟨h2, q2⟩ := b c o h1 q1
  exact ⟨by rw [upd_ne (q1 r l)]; exact h2, q2⟩
/-- one object changed, another one no longer of the table (it may change) -/
theorem TabAt.mut3 {r0 r1 : Role} (h : TabAt CT CM H d t) (hl : ∀ r, live t' r → live t r) (l0 : live t r0) (l1 : live t r1) (n1 : ¬ live t' r1) (b : ∀ c o, c ≠ d.a r0 → c ≠ d.a r1 → H c = some o → H' c = some o) (h0 : H' (d.a r0) = some (ob CT CM d t' r0)) (hs : ∀ r, live t' r → r ≠ r0 → ob CT CM d t' r = ob CT CM d t r) : TabAt CT CM H' d t' ∧ Fr H d t H' d t' := by
  refine ⟨⟨fun r l => ?_, fun r r' l l' e => h.inj r r' (hl r l) (hl r' l') e⟩, fun c o hc q => ⟨b c o (q r0 l0) (q r1 l1) hc, fun r l => q r (hl r l)⟩⟩
  by_cases e : r = r0
  · rw [e]
    exact h0
  · rw [hs r l e]
    exact b _ _ (fun z => e (h.inj r r0 (hl r l) l0 z)) (fun z => n1 (by rw [← h.inj r r1 (hl r l) l1 z]; exact l)) (h.all r (hl r l))
end
/-- a method that raises nothing -/
def MT (P : Program) (w : World) (K : PySem.W.Frag) (mg : Str → Option Value) (base : Heap) (k : Nat) (C : Addr) (m : Str) (ps : List Str) (sp : Sp) : Prop := ∃ f fd, Meth K C m f ∧ FnOk P w K mg base CX0 k f fd ps sp ∧ Binds K fd ps []
def stE (i : Nat) : Stmt := (defBody sEnd).getD i (.Pass ⟨0, 0, 0, 0⟩)
theorem bodyE : defBody sEnd = [stE 0, stE 1, stE 2, stE 3] := rfl
abbrev nE : List Str := ["self", "group", "master", "number", "other", "one"]
abbrev XE (P : Program) (w : World) (K : PySem.W.Frag) (mg : Str → Option Value) (base : Heap) (f : Addr) (cdv : Value) (A : Around) (outer : List Env) (s : Shared) (H0 : Hp) (E : XK) : Cx := (cxOf CX0 P w K mg base nE "Table.end" (defScope sEnd) f cdv A outer s H0 E).nox
section
variable {P : Program} {w : World} {K : PySem.W.Frag} {mg : Str → Option Value} {base : Heap} {CM CT : Addr} {f : Addr} {cdv : Value} {A : Around} {outer : List Env} {s : Shared} {H0 : Hp} {E : XK}
theorem hE0 (c : Cn K CT tbN) {d : Ad} {t : Tb} {g : Int} (lg : g ∈ t.gm) : Ho (XE P w K mg base f cdv A outer s H0 E) (stE 0) (fun σ H => σ = [some (.ref (d.a .tab)), some (.int g), none, none, none, none] ∧ TabAt CT CM H d t ∧ Fr H0 d t H d t)
    (fun σ H => σ = [some (.ref (d.a .tab)), some (.int g), some (oi (t.ms g)), none, none, none] ∧ TabAt CT CM H d { t with gm := del t.gm g } ∧ Fr H0 d t H d { t with gm := del t.gm g }) := by
  refine ⟨_, ps_set (i := 2) scEnd.nd rfl (.inl rfl) (pe_dpop1 (pe_fld (pv 0) rfl) (pv 1) ⟨rfl, rfl, rfl, rfl⟩), ?_⟩
  rintro D σ H ⟨rfl, h, fr⟩ q
  refine ⟨_, rfl, d.a .tab, CT, d.dT, _, .ref (d.a .ms), rfl, h.all .tab trivial, c.cl, c.no _ (by decide +kernel), rfl, d.a .ms, rfl, .inl ⟨_, .inl (h.all .ms trivial)⟩, _, rfl, _, Sum.inl g, oi (t.ms g), h.all .ms trivial, rfl, val_dk lg, ?_⟩
  obtain ⟨h1, f1⟩ := h.mut (t' := { t with gm := del t.gm g }) (r0 := .ms) (H' := upd H (d.a .ms) (.dK (dropK (dk t.gm fun g => oi (t.ms g)) (Sum.inl g)))) (fun r => by cases r <;> exact Iff.rfl) trivial But.upd (by rw [upd_same, drop_dk]; rfl) (fun r l ne => by cases r <;> first | rfl | exact absurd rfl ne)
  exact q _ _ ⟨rfl, h1, fr.trans f1⟩
theorem hE1 (c : Cn K CT tbN) {d : Ad} {t0 t : Tb} {g : Int} {m : V} (lg : g ∈ t.gb) : Ho (XE P w K mg base f cdv A outer s H0 E) (stE 1) (fun σ H => σ = [some (.ref (d.a .tab)), some (.int g), some m, none, none, none] ∧ TabAt CT CM H d t ∧ Fr H0 d t0 H d t)
    (fun σ H => σ = [some (.ref (d.a .tab)), some (.int g), some m, none, none, none] ∧ TabAt CT CM H d { t with gb := del t.gb g } ∧ Fr H0 d t0 H d { t with gb := del t.gb g }) := by
  refine ⟨_, ps_ddel (pe_fld (pv 0) rfl) (pv 1), ?_⟩
  rintro D σ H ⟨rfl, h, fr⟩ q
  refine ⟨_, rfl, d.a .tab, CT, d.dT, _, .ref (d.a .mb), rfl, h.all .tab trivial, c.cl, c.no _ (by decide +kernel), rfl, _, rfl, d.a .mb, _, Sum.inl g, rfl, h.all .mb trivial, rfl, by rw [val_dk lg]; rfl, ?_⟩
  obtain ⟨h1, f1⟩ := h.mut2 (t' := { t with gb := del t.gb g }) (r0 := .mb) (H' := upd H (d.a .mb) (.dK (dropK (dk t.gb fun g => .ref (d.a (.me g))) (Sum.inl g)))) (fun r l => by cases r <;> first | exact l | exact (mem_del.mp l).1) trivial But.upd (by rw [upd_same, drop_dk]; rfl) (fun r l ne => by cases r <;> first | rfl | exact absurd rfl ne)
  exact q _ _ ⟨rfl, h1, fr.trans f1⟩
theorem hE2 (c : Cn K CT tbN) (cM : Cn K CM mtN) (Fo : MT P w K mg base 1 CT "follow" ["self", "mount", "group"] (spFollow CT CM)) (hr : Room 1 (XE P w K mg base f cdv A outer s H0 E).A) {d : Ad} {t0 t : Tb} {g : Int} {B : Nat} (lg : g ∈ t.gh) (z : Sz B t) (hB : B + (t.be g).length ≤ 90000) (hk : ∀ n ∈ t.be g, n ∈ t.kn) (hm : ∀ k, t.ms g = some k → k ∈ t.gh ∧ k ≠ g) : Ho (XE P w K mg base f cdv A outer s H0 E) (stE 2) (fun σ H => σ = [some (.ref (d.a .tab)), some (.int g), some (oi (t.ms g)), none, none, none] ∧ TabAt CT CM H d t ∧ Fr H0 d t0 H d t)
    (fun σ H => ∃ x, σ = [some (.ref (d.a .tab)), some (.int g), some (oi (t.ms g)), x, none, none] ∧ TabAt CT CM H d (folM (t.ms g) (t.be g) { t with gh := del t.gh g }) ∧ Fr H0 d t0 H d (folM (t.ms g) (t.be g) { t with gh := del t.gh g })) := by
  obtain ⟨fF, fdF, mF, FF, bF⟩ := Fo
  have hu := units1 hr
  refine ⟨_, ps_lock (ps_for PassesOwn.never rfl (pi_keys (pe_dpop1 (pe_fld (pv 0) rfl) (pv 1) ⟨rfl, rfl, rfl, rfl⟩)) (pg_name (i := 3) scEnd.nd rfl (Or.inl rfl)) (pss_one (ps_expr (pe_meth (pv 0) c.cl mF FF hr bF .nil pass0 (pa_cons (pe_dget hu (pe_fld (pv 0) rfl) (pv 3) (fun _ _ => rfl)) (pa_cons (pv 2) pa_nil)))))), ?_⟩
  rintro D σ H ⟨rfl, h, fr⟩ q
  have hbe := h.all (.be g) lg
  refine ⟨d.a (.be g), _, hbe, trivial, fun od => ?_⟩
  have ne : ∀ r, live t r → r ≠ .be g → d.a r ≠ d.a (.be g) := fun r l n e => n (h.inj r (.be g) l lg e)
  refine ⟨_, rfl, d.a .tab, CT, d.dT, _, .ref (d.a .bh), rfl, (by rw [upd_ne (ne .tab trivial (by intro e; cases e))]; exact h.all .tab trivial), c.cl, c.no _ (by decide +kernel), rfl, d.a .bh, rfl, .inl ⟨_, .inl (by rw [upd_ne (ne .bh trivial (by intro e; cases e))]; exact h.all .bh trivial)⟩, _, rfl, _, Sum.inl g, .ref (d.a (.be g)), (by rw [upd_ne (ne .bh trivial (by intro e; cases e))]; exact h.all .bh trivial), rfl, val_dk lg, ?_⟩
  have hnb : d.a .bh ≠ d.a (.be g) := ne .bh trivial (by intro e; cases e)
  obtain ⟨h1, f1⟩ := h.mut3 (t' := { t with gh := del t.gh g }) (r0 := .bh) (r1 := .be g) (H' := upd (upd H (d.a (.be g)) (.frz od (ob CT CM d t (.be g)))) (d.a .bh) (.dK (dropK (dk t.gh fun g => .ref (d.a (.be g))) (Sum.inl g)))) (fun r l => by cases r <;> first | exact l | exact (mem_del.mp l).1) trivial lg (fun l => (mem_del.mp l).2 rfl) (fun c o n0 n1 hc => by rw [upd_ne n0, upd_ne n1]; exact hc) (by rw [upd_same, drop_dk]; rfl) (fun r l ne => by cases r <;> first | rfl | exact absurd rfl ne)
  have hz1 : upd (upd H (d.a (.be g)) (.frz od (ob CT CM d t (.be g)))) (d.a .bh) (.dK (dropK (dk t.gh fun g => .ref (d.a (.be g))) (Sum.inl g))) (d.a (.be g)) = some (.frz od (ob CT CM d t (.be g))) := by
    rw [upd_ne (Ne.symm hnb)]
    exact upd_same
  generalize hH1 : upd (upd H (d.a (.be g)) (.frz od (ob CT CM d t (.be g)))) (d.a .bh) (.dK (dropK (dk t.gh fun g => .ref (d.a (.be g))) (Sum.inl g))) = H1 at h1 f1 hz1 ⊢
  have out1 : Out d { t with gh := del t.gh g } (d.a (.be g)) := fun r l e => by
    have lr : live t r := by cases r <;> first | exact l | exact (mem_del.mp l).1
    have := h.inj (.be g) r lg lr e
    rw [← this] at l
    exact (mem_del.mp l).2 rfl
  refine ⟨d.a (.be g), od, rfl, .inl ⟨_, hz1, for_it walk_keys (fun i σ H2 => (∃ x, σ = [some (.ref (d.a .tab)), some (.int g), some (oi (t.ms g)), x, none, none]) ∧ TabAt CT CM H2 d (folM (t.ms g) ((t.be g).take i) { t with gh := del t.gh g }) ∧ Fr H1 d { t with gh := del t.gh g } H2 d (folM (t.ms g) ((t.be g).take i) { t with gh := del t.gh g })) ⟨⟨_, rfl⟩, h1, Fr.refl _ _ _⟩ (fun i σ H2 _ p => (p.2.2 _ _ hz1 out1).1) ?_ ?_⟩⟩
  · rintro i x σ H2' H2 hi ⟨⟨x0, rfl⟩, h2, f2⟩ ⟨rfl, kk, vv, hkv, rfl⟩
    have hi' : i < (t.be g).length := by
      rw [dk_len] at hi
      exact hi
    have hn : (t.be g)[i]? = some (t.be g)[i] := List.getElem?_eq_getElem hi'
    generalize hnn : (t.be g)[i] = n at hn
    have ek : kk = Sum.inl n := by
      unfold dk at hkv
      rw [List.getElem?_map, hn] at hkv
      exact (congrArg Prod.fst (Option.some.inj hkv)).symm
    subst ek
    obtain ⟨e1, e2, e3, e4, e5⟩ := folM_ms (t.ms g) ((t.be g).take i) { t with gh := del t.gh g }
    have ln : n ∈ (folM (t.ms g) ((t.be g).take i) { t with gh := del t.gh g }).kn := by
      rw [e5]
      exact hk n (List.mem_of_getElem? hn)
    have zt : ((t.be g).take i).length ≤ (t.be g).length := by
      rw [List.length_take]
      exact Nat.min_le_right _ _
    have z1 : Sz B { t with gh := del t.gh g } := ⟨z.b, z.kn, z.kp, z.ts, z.os, z.gm, z.gb, Nat.le_trans (del_len _ _) z.gh, z.me, z.be⟩
    refine ⟨_, rfl, d.a .tab, d.dT, _, rfl, h2.all .tab trivial, rfl, _, rfl, d.a .tab, CT, d.dT, _, .ref (d.a .kn), rfl, h2.all .tab trivial, c.cl, c.no _ (by decide +kernel), rfl, _, rfl, d.a .kn, .ref (d.a (.mt n)), rfl, ?_, _, rfl, d, _, _, n, t.ms g, rfl, h2, folM_sz (t.ms g) _ _ B z1 (by omega), ln, fun k hk' => ?_, fun H3 h3 f3 => ?_⟩
    · rw [← val_dk (f := fun n => V.ref (d.a (.mt n))) ln]
      exact DGet.k (k := (Sum.inl n : Key)) (h2.all .kn trivial)
    · rw [e3]
      exact mem_del.mpr (hm k hk')
    · rw [take_snoc hn, folM_snoc]
      exact ⟨⟨_, rfl⟩, h3, f2.trans f3⟩
  · rintro σ H2 ⟨⟨x0, rfl⟩, h2, f2⟩
    have et : (t.be g).take (dk (t.be g) fun _ => V.bl true).length = t.be g := List.take_of_length_le (by rw [dk_len]; exact Nat.le_refl _)
    rw [et] at h2 f2
    obtain ⟨hz2, out2⟩ := f2 _ _ hz1 out1
    exact ⟨hz2, q _ _ ⟨x0, rfl, h2.updOut out2, fr.updOut (f1.trans f2) (r := .be g) lg⟩⟩
end
end Rp
set_option autoImplicit true
set_option Elab.async false
set_option linter.all false
set_option maxRecDepth 100000
set_option maxHeartbeats 8000000
namespace Rp
open PySem PySem.Spec PyProof.Rows L2 Cm Ob Tx
theorem unlock {H H' : Hp} {d : Addr} {od : Obj} {u : HO} (hd : H d = some u) (s : Same (upd H d (.frz od u)) H') : Same H (upd H' d u) := fun b o hb => by
  by_cases e : b = d
  · subst e
    rw [hd] at hb
    cases hb
    exact upd_same
  · rw [upd_ne e]
    exact s _ _ (by rw [upd_ne e]; exact hb)
def isM (t : Tb) (g : Int) (k : Int) : Bool := decide (t.ms k = some g)
theorem oi_dec (t : Tb) (g k : Int) : decide (oi (t.ms k) = V.int g) = isM t g k := by
  unfold isM
  refine decide_eq_decide.mpr ⟨fun h => oi_inj (b := some g) h, fun h => by rw [h]; rfl⟩
theorem scal_oi (o : Option Int) (g : Int) : scal (oi o) (.int g) = true := by cases o <;> rfl
theorem filter_snoc {α : Type} (p : α → Bool) (l : List α) (x : α) : (l ++ [x]).filter p = if p x = true then l.filter p ++ [x] else l.filter p := by
  rw [List.filter_append]
  by_cases h : p x = true
  · rw [if_pos h, List.filter_cons_of_pos h]
    rfl
  · rw [if_neg h, List.filter_cons_of_neg (by simpa using h), List.filter_nil, List.append_nil]
/-- masters changed to m at the groups of L -/
def Tb.reM (t : Tb) (m : Option Int) (L : List Int) : Tb := { t with ms := fun k => if k ∈ L then m else t.ms k }
section
variable {P : Program} {w : World} {K : PySem.W.Frag} {mg : Str → Option Value} {base : Heap} {CM CT : Addr} {f : Addr} {cdv : Value} {A : Around} {outer : List Env} {s : Shared} {H0 : Hp} {E : XK}
theorem hE3 (c : Cn K CT tbN) (hr : Room 1 (XE P w K mg base f cdv A outer s H0 E).A) {d : Ad} {t0 t : Tb} {g : Int} {m : Option Int} {B : Nat} (z : Sz B t) : Ho (XE P w K mg base f cdv A outer s H0 E) (stE 3) (fun σ H => ∃ x, σ = [some (.ref (d.a .tab)), some (.int g), some (oi m), x, none, none] ∧ TabAt CT CM H d t ∧ Fr H0 d t0 H d t)
    (fun σ H => TabAt CT CM H d (t.reM m (t.gm.filter (isM t g))) ∧ Fr H0 d t0 H d (t.reM m (t.gm.filter (isM t g)))) := by
  have hu := units1 hr
  refine ⟨_, ps_for PassesOwn.never rfl (pi_list (pe_lock (pe_lc (own := [("one", 5)]) (g := gName 5) (tt := tTest (tOp rEq (tDGet (tFld K (tVar 0) "masters") (tVar 5)) (tVar 1))) (te := tVar 5) (by rfl) scEnd.nd (pi_keys (pe_fld (pv 0) rfl)) (blkOk_by (own := [("one", 5)]) (N := nE) (sc := defScope sEnd) (by decide +kernel)) (fun _ _ _ _ _ => pg_name (i := 5) scEnd.nd rfl (Or.inl rfl)) (fun _ _ _ _ _ => pts_one (pt_cmpR op_eq (pe_dget hu (pe_fld (pv 0) rfl) (pv 5) (fun _ _ => rfl)) (pv 1) (nomark _))) (fun _ _ _ _ _ => pv 5)))) (pg_name (i := 4) scEnd.nd rfl (Or.inl rfl)) (pss_one (ps_dput hu (pe_fld (pv 0) rfl) (pv 4) (pv 2) rfl)), ?_⟩
  rintro D0 σ H ⟨x0, rfl, h, fr⟩ q
  refine ⟨d.a .ms, _, h.all .ms trivial, trivial, fun od => ?_⟩
  have nT : d.a .tab ≠ d.a .ms := fun e => by cases h.inj .tab .ms trivial trivial e
  have hT1 : upd H (d.a .ms) (.frz od (ob CT CM d t .ms)) (d.a .tab) = some (ob CT CM d t .tab) := by
    rw [upd_ne nT]
    exact h.all .tab trivial
  have hm1 : upd H (d.a .ms) (.frz od (ob CT CM d t .ms)) (d.a .ms) = some (.frz od (ob CT CM d t .ms)) := upd_same
  refine ⟨_, rfl, d.a .tab, CT, d.dT, _, .ref (d.a .ms), rfl, hT1, c.cl, c.no _ (by decide +kernel), rfl, d.a .ms, od, rfl, .inl ⟨_, hm1, fun D hD => lc_it walk_keys (fun i H' => H' D = some (.lst (((t.gm.take i).filter (isM t g)).map V.int)) ∧ Same (upd H (d.a .ms) (.frz od (ob CT CM d t .ms))) H') ⟨upd_same, same_new hD⟩ (fun i H' _ h => h.2 _ _ hm1) ?_ ?_⟩⟩
  · rintro i y H2' H2 hi ⟨h2, sm⟩ ⟨rfl, kk, vv, hkv, rfl⟩
    have hi' : i < t.gm.length := by
      rw [dk_len] at hi
      exact hi
    have hn : t.gm[i]? = some t.gm[i] := List.getElem?_eq_getElem hi'
    generalize hnn : t.gm[i] = n at hn
    have ek : kk = Sum.inl n := by
      unfold dk at hkv
      rw [List.getElem?_map, hn] at hkv
      exact (congrArg Prod.fst (Option.some.inj hkv)).symm
    subst ek
    have ln : n ∈ t.gm := List.mem_of_getElem? hn
    refine ⟨rfl, _, rfl, d.a .tab, CT, d.dT, _, .ref (d.a .ms), rfl, sm _ _ hT1, c.cl, c.no _ (by decide +kernel), rfl, _, rfl, d.a .ms, oi (t.ms n), rfl, ?_, _, rfl, scal_oi _ _, _, rfl, ?_⟩
    · rw [← val_dk (f := fun g => oi (t.ms g)) ln]
      exact .inl ⟨_, Sum.inl n, .inr ⟨od, sm _ _ hm1⟩, rfl, rfl⟩
    · rw [oi_dec, take_snoc hn, filter_snoc]
      cases e : isM t g n with
      | false => exact iteF ⟨by rw [if_neg (by simp)]; exact h2, sm⟩
      | true =>
        refine iteT ⟨_, rfl, _, h2, z.lt ?_, ?_, same_mut hD sm⟩
        · rw [List.length_map]
          refine Nat.le_trans (List.length_filter_le _ _) ?_
          rw [List.length_take]
          exact Nat.le_trans (Nat.min_le_right _ _) z.gm
        · rw [upd_same, if_pos rfl, List.map_append]
          rfl
  · rintro H1 ⟨h1, sm⟩
    rw [dk_len, List.take_of_length_le (Nat.le_refl _)] at h1
    have sU := unlock (h.all .ms trivial) sm
    have nD : D ≠ d.a .ms := fun e => by
      rw [e, upd_same] at hD
      cases hD
    have hD0 : H D = none := by
      rw [upd_ne nD] at hD
      exact hD
    have hDm : upd H1 (d.a .ms) (ob CT CM d t .ms) D = some (.lst ((t.gm.filter (isM t g)).map V.int)) := by
      rw [upd_ne nD]
      exact h1
    have h2 := h.same sU
    have f2 := Fr.same h sU
    refine ⟨sm _ _ hm1, D, rfl, ⟨_, SqL.of hDm⟩, ?_⟩
    generalize hH2 : upd H1 (d.a .ms) (ob CT CM d t .ms) = H2 at hDm h2 f2 sU ⊢
    refine for_list (K := K) (a := D) (xs := (t.gm.filter (isM t g)).map V.int) (fun i σ H' => (∃ x y, σ = [some (.ref (d.a .tab)), some (.int g), some (oi m), x, y, none]) ∧ H' D = some (.lst ((t.gm.filter (isM t g)).map V.int)) ∧ TabAt CT CM H' d (t.reM m ((t.gm.filter (isM t g)).take i)) ∧ Fr H0 d t0 H' d (t.reM m ((t.gm.filter (isM t g)).take i))) ⟨⟨_, _, rfl⟩, hDm, ?_, ?_⟩ (fun i σ H' _ p => SqL.of p.2.1) ?_ ?_
    · have e0 : t.reM m ((t.gm.filter (isM t g)).take 0) = t := by
        unfold Tb.reM
        rw [List.take_zero]
        simp
      rw [e0]
      exact h2
    · have e0 : t.reM m ((t.gm.filter (isM t g)).take 0) = t := by
        unfold Tb.reM
        rw [List.take_zero]
        simp
      rw [e0]
      exact fr.trans f2
    · rintro i y σ H3 hy ⟨⟨x1, y1, rfl⟩, hD3, h3, f3⟩
      rw [List.getElem?_map] at hy
      cases en : (t.gm.filter (isM t g))[i]? with
      | none =>
        rw [en] at hy
        cases hy
      | some n =>
      rw [en] at hy
      have hy : V.int n = y := Option.some.inj hy
      subst hy
      have ln : n ∈ t.gm := (List.mem_filter.mp (List.mem_of_getElem? en)).1
      refine ⟨_, rfl, _, rfl, d.a .tab, CT, d.dT, _, .ref (d.a .ms), rfl, h3.all .tab trivial, c.cl, c.no _ (by decide +kernel), rfl, _, rfl, d.a .ms, _, rfl, DPut.k (k := (Sum.inl n : Key)) (h3.all .ms trivial) (z.lt (by rw [dk_len]; exact z.gm)), ?_⟩
      obtain ⟨h4, f4⟩ := h3.mut (t' := t.reM m ((t.gm.filter (isM t g)).take (i + 1))) (r0 := .ms) (H' := upd H3 (d.a .ms) (.dK (putK (dk t.gm fun k => oi ((t.reM m ((t.gm.filter (isM t g)).take i)).ms k)) (Sum.inl n) (oi m)))) (fun r => by cases r <;> exact Iff.rfl) trivial But.upd (by
        rw [upd_same, put_dk ln]
        refine congrArg some (congrArg HO.dK (dk_cong fun k _ => ?_))
        show fu (fun k => oi ((t.reM m ((t.gm.filter (isM t g)).take i)).ms k)) n (oi m) k = oi (if k ∈ (t.gm.filter (isM t g)).take (i + 1) then m else t.ms k)
        rw [take_snoc en]
        by_cases e : k = n
        · rw [e, fu_same, if_pos (by simp)]
        · rw [fu_ne e]
          show oi (if k ∈ (t.gm.filter (isM t g)).take i then m else t.ms k) = _
          simp [e]) (fun r l ne => by cases r <;> first | rfl | exact absurd rfl ne)
      exact ⟨⟨_, _, rfl⟩, by rw [upd_ne nD]; exact hD3, h4, f3.trans f4⟩
    · rintro σ H3 ⟨⟨x1, y1, rfl⟩, hD3, h3, f3⟩
      rw [List.length_map, List.take_of_length_le (Nat.le_refl _)] at h3 f3
      exact q _ _ ⟨h3, f3⟩
theorem ends_eq (t : Tb) (g : Int) : t.ends g = (folM (t.ms g) (t.be g) { t with gm := del t.gm g, gb := del t.gb g, gh := del t.gh g }).reM (t.ms g) ((folM (t.ms g) (t.be g) { t with gm := del t.gm g, gb := del t.gb g, gh := del t.gh g }).gm.filter (isM (folM (t.ms g) (t.be g) { t with gm := del t.gm g, gb := del t.gb g, gh := del t.gh g }) g)) := by
  unfold Tb.ends Tb.reM isM
  dsimp only
  congr 1
  funext k
  simp only [List.mem_filter, decide_eq_true_eq]
def spEnd (CT CM : Addr) : Sp := fun vs H Q _ => ∃ d t B g, vs = [.ref (d.a .tab), .int g] ∧ TabAt CT CM H d t ∧ Sz B t ∧ B + B ≤ 90000 ∧ g ∈ t.gm ∧ g ∈ t.gb ∧ g ∈ t.gh ∧ (∀ n ∈ t.be g, n ∈ t.kn) ∧ (∀ k, t.ms g = some k → k ∈ t.gh ∧ k ≠ g) ∧ ∀ H', TabAt CT CM H' d (t.ends g) → Fr H d t H' d (t.ends g) → Q .non H'
theorem ok_end {fd : FuncData} {k : Nat} (F : Fun K "end" "Table.end" sEnd f fd) (c : Cn K CT tbN) (cM : Cn K CM mtN) (Fo : MT P w K mg base 1 CT "follow" ["self", "mount", "group"] (spFollow CT CM)) : FnOk P w K mg base CX0 (k + 2) f fd ["self", "group"] (spEnd CT CM) := by
  refine F.ok scEnd (fun vs H Q E h => ?_) (fun cdv A outer s H vs Q E hr h => ?_)
  · obtain ⟨d, t, B, g, rfl, _⟩ := h
    rfl
  · obtain ⟨d, t, B, g, rfl, h, z, hB, l1, l2, l3, hk, hm, q⟩ := h
    have hr1 : Room 1 (XE P w K mg base f cdv A outer s H E).A := Room.mono (show Room (k + 1) (XE P w K mg base f cdv A outer s H E).A from hr) (by omega)
    have zb := z.be g
    have z2 : Sz B { t with gm := del t.gm g, gb := del t.gb g } := ⟨z.b, z.kn, z.kp, z.ts, z.os, Nat.le_trans (del_len _ _) z.gm, Nat.le_trans (del_len _ _) z.gb, z.gh, z.me, z.be⟩
    have z3 : Sz B { t with gm := del t.gm g, gb := del t.gb g, gh := del t.gh g } := ⟨z.b, z.kn, z.kp, z.ts, z.os, Nat.le_trans (del_len _ _) z.gm, Nat.le_trans (del_len _ _) z.gb, Nat.le_trans (del_len _ _) z.gh, z.me, z.be⟩
    obtain ⟨tt, ht, hq⟩ := HoS.cons (hE0 (P := P) (w := w) (K := K) (mg := mg) (base := base) (f := f) (cdv := cdv) (A := A) (outer := outer) (s := s) (H0 := H) (E := E) (CM := CM) (d := d) (t := t) (g := g) c l1) (HoS.cons (hE1 c (t := { t with gm := del t.gm g }) l2) (HoS.cons (hE2 c cM Fo hr1 (t := { t with gm := del t.gm g, gb := del t.gb g }) l3 z2 (by show B + (t.be g).length ≤ 90000; omega) hk hm) (HoS.cons (hE3 c hr1 (folM_sz (t.ms g) (t.be g) _ B z3 (by omega))) HoS.nil)))
    rw [bodyE]
    rw [ends_eq] at q
    exact ⟨tt, ht, hq _ _ _ ⟨rfl, h, Fr.refl _ _ _⟩ fun σ' H' z => q H' z.1 z.2⟩
end
end Rp
set_option autoImplicit true
set_option Elab.async false
set_option linter.all false
set_option maxRecDepth 100000
set_option maxHeartbeats 8000000
namespace Rp
open PySem PySem.Spec PyProof.Rows L2 Cm Ob Tx
def Tb.lv1 (t : Tb) (n g : Int) : Tb := (t.setMe g (del (t.me g) n)).setM n { t.mn n with gr := none }
def Tb.leave (t : Tb) (n : Int) : Tb := match (t.mn n).gr with
  | none => t
  | some g => if del (t.me g) n = [] then (t.lv1 n g).ends g else t.lv1 n g
/-- what the ends of groups ask -/
structure Gok (t : Tb) (g : Int) : Prop where
  gm : g ∈ t.gm
  gb : g ∈ t.gb
  gh : g ∈ t.gh
  be : ∀ n ∈ t.be g, n ∈ t.kn
  ms : ∀ k, t.ms g = some k → k ∈ t.gh ∧ k ≠ g
def spLeave (CT CM : Addr) : Sp := fun vs H Q _ => ∃ d t B n, vs = [.ref (d.a .tab), .ref (d.a (.mt n))] ∧ TabAt CT CM H d t ∧ Sz B t ∧ B + B ≤ 90000 ∧ n ∈ t.kn ∧ (∀ g, (t.mn n).gr = some g → Gok t g ∧ n ∈ t.me g) ∧ ∀ H', TabAt CT CM H' d (t.leave n) → Fr H d t H' d (t.leave n) → Q .non H'
theorem set1_empty {l : List Int} : (dk l fun _ => V.bl true).isEmpty = decide (l = []) := by
  cases l <;> rfl
section
variable {P : Program} {w : World} {K : PySem.W.Frag} {mg : Str → Option Value} {base : Heap} {CM CT : Addr}
theorem ok_leave {f : Addr} {fd : FuncData} {k : Nat} (F : Fun K "leave" "Table.leave" sLeave f fd) (c : Cn K CT tbN) (cM : Cn K CM mtN) (En : MT P w K mg base 2 CT "end" ["self", "group"] (spEnd CT CM)) : FnOk P w K mg base CX0 (k + 3) f fd ["self", "mount"] (spLeave CT CM) := by
  obtain ⟨fE, fdE, mE, FE, bE⟩ := En
  refine F.ok scLeave (fun vs H Q E h => ?_) (fun cdv A outer s H vs Q E hr h => ?_)
  · obtain ⟨d, t, B, n, rfl, _⟩ := h
    rfl
  · obtain ⟨d, t, B, n, rfl, h, z, hB, ln, hg, q⟩ := h
    have hr2 : Room 2 (cxOf CX0 P w K mg base ["self", "mount", "group"] "Table.leave" (defScope sLeave) f cdv A outer s H E).nox.A := hr.mono (by omega)
    have hu := units1 hr2
    refine ⟨_, pss_cons (ps_set (i := 2) scLeave.nd rfl (.inl rfl) (pe_fld (pv 1) rfl)) (pss_one (ps_if (pt_cmpR op_notN (pv 2) pe_non (nomark _))
      (pss_cons (ps_ddel (pe_dget hu (pe_fld (pv 0) rfl) (pv 2) (fun _ _ => rfl)) (pe_fld (pv 1) rfl))
      (pss_cons (ps_fld (pv 1) pe_non rfl)
      (pss_one (ps_if (pt_not (pt_truth (pe_dget hu (pe_fld (pv 0) rfl) (pv 2) (fun _ _ => rfl)) (by intro _; rfl))) (pss_one (ps_expr (pe_meth (pv 0) c.cl mE FE hr2 bE .nil pass0 (pa_cons (pv 2) pa_nil)))) pss_nil)))) pss_nil)), ?_⟩
    refine ⟨_, rfl, d.a (.mt n), CM, d.dm n, _, oi (t.mn n).gr, rfl, h.all (.mt n) ln, cM.cl, cM.no _ (by decide +kernel), rfl, _, rfl, rfl, _, rfl, ?_⟩
    cases e : (t.mn n).gr with
    | none =>
      have eq : t.leave n = t := by
        unfold Tb.leave
        rw [e]
      rw [eq] at q
      exact iteF (q H h (Fr.refl _ _ _))
    | some g =>
      obtain ⟨G, lm⟩ := hg g e
      have eq : t.leave n = if del (t.me g) n = [] then (t.lv1 n g).ends g else t.lv1 n g := by
        unfold Tb.leave
        rw [e]
      rw [eq] at q
      refine iteT ⟨_, rfl, d.a .tab, CT, d.dT, _, .ref (d.a .mb), rfl, h.all .tab trivial, c.cl, c.no _ (by decide +kernel), rfl, _, rfl, d.a .mb, .ref (d.a (.me g)), rfl, ?_, _, rfl, d.a (.mt n), CM, d.dm n, _, .int n, rfl, h.all (.mt n) ln, cM.cl, cM.no _ (by decide +kernel), rfl, d.a (.me g), _, Sum.inl n, rfl, h.all (.me g) G.gb, rfl, ?_, ?_⟩
      · rw [← val_dk (f := fun g => V.ref (d.a (.me g))) G.gb]
        exact DGet.k (k := (Sum.inl g : Key)) (h.all .mb trivial)
      · rw [val_dk lm]
        rfl
      · obtain ⟨h3, f3⟩ := h.updMe G.gb (drop_set (t.me g) n)
        refine ⟨_, rfl, d.a (.mt n), CM, d.dm n, _, rfl, h3.all (.mt n) ln, cM.cl, cM.no _ (by decide +kernel), by show 11 < 1000; decide, ?_⟩
        obtain ⟨h4, f4⟩ := h3.updM (m := { t.mn n with gr := none }) (o := .ins CM (d.dm n) (putF "group" .non (mnF n ((t.setMe g (del (t.me g) n)).mn n)))) ln rfl
        have h4' : TabAt CT CM _ d (t.lv1 n g) := h4
        have f34 := f3.trans f4
        generalize hH4 : upd (upd H (d.a (.me g)) (.dK (dropK (dk (t.me g) fun _ => .bl true) (Sum.inl n)))) (d.a (.mt n)) (.ins CM (d.dm n) (putF "group" .non (mnF n ((t.setMe g (del (t.me g) n)).mn n)))) = H4 at h4' f34 ⊢
        have hme : H4 (d.a (.me g)) = some (set1 (del (t.me g) n)) := by
          have := h4'.all (.me g) G.gb
          rw [this]
          show some (set1 (fu t.me g (del (t.me g) n) g)) = _
          rw [fu_same]
        refine ⟨_, rfl, d.a .tab, CT, d.dT, _, .ref (d.a .mb), rfl, h4'.all .tab trivial, c.cl, c.no _ (by decide +kernel), rfl, _, rfl, d.a .mb, .ref (d.a (.me g)), rfl, ?_, _, .inr (.inr ⟨_, hme, rfl⟩), ?_⟩
        · rw [← val_dk (f := fun g => V.ref (d.a (.me g))) (l := t.gb) G.gb]
          exact DGet.k (k := (Sum.inl g : Key)) (h4'.all .mb trivial)
        · rw [set1_empty]
          by_cases ed : del (t.me g) n = []
          · rw [decide_eq_true ed]
            rw [if_pos ed] at q
            have z4 : Sz B (t.lv1 n g) := ⟨z.b, z.kn, z.kp, z.ts, z.os, z.gm, z.gb, z.gh, fun k => by
              show (fu t.me g (del (t.me g) n) k).length ≤ B
              by_cases e : k = g
              · rw [e, fu_same]
                exact Nat.le_trans (del_len _ _) (z.me g)
              · rw [fu_ne e]
                exact z.me k, z.be⟩
            exact iteT ⟨_, rfl, d.a .tab, d.dT, _, rfl, h4'.all .tab trivial, rfl, _, rfl, d, t.lv1 n g, B, g, rfl, h4', z4, hB, G.gm, G.gb, G.gh, G.be, G.ms, fun H5 h5 f5 => q H5 h5 (f34.trans f5)⟩
          · rw [decide_eq_false ed]
            rw [if_neg ed] at q
            exact iteF (q _ h4' f34)
/-! ### make_one -/
theorem scMk : FnScope ["table", "mount", "kind", "followed", "group", "master"] ["table", "mount", "kind"] (defScope sMakeOne) := ⟨rfl, rfl, rfl, by decide +kernel, rfl, by decide +kernel, by decide +kernel⟩
/-- a table in which all that is said of groups is true -/
structure Wf (t : Tb) : Prop where
  gb : t.gb = t.gm
  gh : t.gh = t.gm
  lt : ∀ g ∈ t.gm, g < t.cg
  me : ∀ g ∈ t.gm, ∀ n, n ∈ t.me g ↔ n ∈ t.kn ∧ (t.mn n).gr = some g
  be : ∀ g ∈ t.gm, ∀ n, n ∈ t.be g ↔ n ∈ t.kn ∧ (t.mn n).gr = none ∧ (t.mn n).fo = some g
  mn : ∀ g ∈ t.gm, (t.me g).Nodup
  bn : ∀ g ∈ t.gm, (t.be g).Nodup
  ne : ∀ g ∈ t.gm, t.me g ≠ []
  gr : ∀ n ∈ t.kn, ∀ g, (t.mn n).gr = some g → g ∈ t.gm ∧ (t.mn n).fo = none
  fo : ∀ n ∈ t.kn, ∀ g, (t.mn n).fo = some g → g ∈ t.gm ∧ (t.mn n).gr = none
  ms : ∀ g ∈ t.gm, ∀ k, t.ms g = some k → k ∈ t.gm ∧ k < g
theorem Wf.gok {t : Tb} (w : Wf t) {g : Int} (h : g ∈ t.gm) : Gok t g := ⟨h, by rw [w.gb]; exact h, by rw [w.gh]; exact h, fun n hn => ((w.be g h n).mp hn).1, fun k hk => ⟨by rw [w.gh]; exact (w.ms g h k hk).1, Int.ne_of_lt (w.ms g h k hk).2⟩⟩
def Tb.mkS (t : Tb) (n : Int) : Tb :=
  let t1 := t.setM n { t.mn n with ma := false }
  match (t.mn n).gr with
  | some _ => t1
  | none => ((t1.unf n).newG (t.mn n).fo).join n t.cg
def Tb.mkF (t : Tb) (n : Int) : Tb := match (t.mn n).gr with
  | none => t
  | some g => (t.leave n).follow n (if g ∈ (t.leave n).gm then some g else t.ms g)
def Tb.mkA (t : Tb) (n : Int) (b : Bool) : Tb :=
  let t1 := (t.unf n).leave n
  t1.setM n { t1.mn n with ma := b }
def Tb.make (t : Tb) (n : Int) (kind : Str) : Tb := if kind = "sharing" then t.mkS n else if kind = "following" then t.mkF n else t.mkA n (decide (kind = "unbindable"))
def spMk (CT CM : Addr) : Sp := fun vs H Q _ => ∃ d t B n kind, vs = [.ref (d.a .tab), .ref (d.a (.mt n)), .str kind] ∧ TabAt CT CM H d t ∧ Wf t ∧ Sz B t ∧ B + B + 10 ≤ 90000 ∧ n ∈ t.kn ∧ ∀ H' d', TabAt CT CM H' d' (t.make n kind) → Fr H d t H' d' (t.make n kind) → d'.a .tab = d.a .tab → (∀ n, d'.a (.mt n) = d.a (.mt n)) → Q .non H'
theorem unf_kn (t : Tb) (n : Int) : (t.unf n).kn = t.kn ∧ (t.unf n).gm = t.gm ∧ (t.unf n).gb = t.gb ∧ (t.unf n).gh = t.gh ∧ (t.unf n).cg = t.cg ∧ (t.unf n).me = t.me ∧ (t.unf n).ms = t.ms := by
  unfold Tb.unf
  split <;> exact ⟨rfl, rfl, rfl, rfl, rfl, rfl, rfl⟩
theorem unf_sz {B : Nat} {t : Tb} (z : Sz B t) (n : Int) : Sz B (t.unf n) := by
  unfold Tb.unf
  split
  · exact z
  · rename_i g _
    refine ⟨z.b, z.kn, z.kp, z.ts, z.os, z.gm, z.gb, z.gh, z.me, fun k => ?_⟩
    show (fu t.be g (del (t.be g) n) k).length ≤ B
    by_cases e : k = g
    · rw [e, fu_same]
      exact Nat.le_trans (del_len _ _) (z.be g)
    · rw [fu_ne e]
      exact z.be k
theorem newG_sz {B : Nat} {t : Tb} (z : Sz B t) (hB : B + 1 ≤ 90000) (m : Option Int) : Sz (B + 1) (t.newG m) := by
  have up : ∀ {a : Nat}, a ≤ B → a ≤ B + 1 := fun h => Nat.le_succ_of_le h
  have ap : ∀ {l : List Int} {x : Int}, l.length ≤ B → (l ++ [x]).length ≤ B + 1 := fun h => by
    rw [List.length_append]
    exact Nat.succ_le_succ h
  refine ⟨hB, up z.kn, up z.kp, up z.ts, up z.os, ap z.gm, ap z.gb, ap z.gh, fun k => ?_, fun k => ?_⟩
  · show (fu t.me t.cg [] k).length ≤ B + 1
    unfold fu
    split
    · exact Nat.zero_le _
    · exact up (z.me k)
  · show (fu t.be t.cg [] k).length ≤ B + 1
    unfold fu
    split
    · exact Nat.zero_le _
    · exact up (z.be k)
end
end Rp
set_option autoImplicit true
set_option Elab.async false
set_option linter.all false
set_option maxRecDepth 100000
set_option maxHeartbeats 8000000
namespace Rp
open PySem PySem.Spec PyProof.Rows L2 Cm Ob Tx
theorem setM_mn {t : Tb} {n : Int} {m : Mn} : (t.setM n m).mn n = m := fu_same
theorem ends_ks (t : Tb) (g : Int) : (t.ends g).kn = t.kn ∧ (t.ends g).gm = del t.gm g ∧ (t.ends g).gb = del t.gb g ∧ (t.ends g).gh = del t.gh g := by
  obtain ⟨_, a2, a3, a4, a5⟩ := folM_ms (t.ms g) (t.be g) { t with gm := del t.gm g, gb := del t.gb g, gh := del t.gh g }
  exact ⟨a5, a2, a4, a3⟩
theorem leave_kn (t : Tb) (n : Int) : (t.leave n).kn = t.kn := by
  unfold Tb.leave
  split
  · rfl
  · split
    · exact (ends_ks _ _).1
    · rfl
theorem unf_id {t : Tb} {n : Int} (h : (t.mn n).fo = none) : t.unf n = t := by
  unfold Tb.unf
  rw [h]
theorem leave_id {t : Tb} {n : Int} (h : (t.mn n).gr = none) : t.leave n = t := by
  unfold Tb.leave
  rw [h]
theorem unf_gr (t : Tb) (n : Int) : ((t.unf n).mn n).gr = (t.mn n).gr := by
  unfold Tb.unf
  split
  · rfl
  · show (fu t.mn n _ n).gr = _
    rw [fu_same]
theorem folM_sz' {B : Nat} {t : Tb} {g : Int} (z : Sz B t) (hB : B + B ≤ 90000) : Sz (B + B) (t.ends g) := by
  have z3 : Sz B { t with gm := del t.gm g, gb := del t.gb g, gh := del t.gh g } := ⟨z.b, z.kn, z.kp, z.ts, z.os, Nat.le_trans (del_len _ _) z.gm, Nat.le_trans (del_len _ _) z.gb, Nat.le_trans (del_len _ _) z.gh, z.me, z.be⟩
  have zb := z.be g
  have := folM_sz (t.ms g) (t.be g) _ B z3 (by omega)
  have up : ∀ {a : Nat}, a ≤ B + (t.be g).length → a ≤ B + B := fun h => by omega
  exact ⟨hB, up this.kn, up this.kp, up this.ts, up this.os, up this.gm, up this.gb, up this.gh, fun k => up (this.me k), fun k => up (this.be k)⟩
theorem Sz.mono {B B' : Nat} {t : Tb} (z : Sz B t) (h : B ≤ B') (hb : B' ≤ 90000) : Sz B' t := ⟨hb, Nat.le_trans z.kn h, Nat.le_trans z.kp h, Nat.le_trans z.ts h, Nat.le_trans z.os h, Nat.le_trans z.gm h, Nat.le_trans z.gb h, Nat.le_trans z.gh h, fun k => Nat.le_trans (z.me k) h, fun k => Nat.le_trans (z.be k) h⟩
theorem lv1_sz {B : Nat} {t : Tb} (z : Sz B t) (n g : Int) : Sz B (t.lv1 n g) := ⟨z.b, z.kn, z.kp, z.ts, z.os, z.gm, z.gb, z.gh, fun k => by
  show (fu t.me g (del (t.me g) n) k).length ≤ B
  by_cases e : k = g
  · rw [e, fu_same]
    exact Nat.le_trans (del_len _ _) (z.me g)
  · rw [fu_ne e]
    exact z.me k, z.be⟩
theorem leave_sz {B : Nat} {t : Tb} (z : Sz B t) (hB : B + B ≤ 90000) (n : Int) : Sz (B + B) (t.leave n) := by
  unfold Tb.leave
  split
  · exact z.mono (by omega) hB
  · split
    · exact folM_sz' (lv1_sz z n _) hB
    · exact (lv1_sz z n _).mono (by omega) hB
theorem leave_g {t : Tb} (w : Wf t) {n g : Int} (h : (t.mn n).gr = some g) (hg : g ∈ t.gm) : ∀ k, (if g ∈ (t.leave n).gm then some g else t.ms g) = some k → k ∈ (t.leave n).gh := by
  intro k hk
  have eq : t.leave n = if del (t.me g) n = [] then (t.lv1 n g).ends g else t.lv1 n g := by
    unfold Tb.leave
    rw [h]
  rw [eq] at hk ⊢
  by_cases ed : del (t.me g) n = []
  · rw [if_pos ed] at hk ⊢
    obtain ⟨_, e2, _, e4⟩ := ends_ks (t.lv1 n g) g
    rw [e2] at hk
    rw [if_neg (fun z => (mem_del.mp z).2 rfl)] at hk
    obtain ⟨m1, m2⟩ := w.ms g hg k hk
    rw [e4]
    refine mem_del.mpr ⟨?_, Int.ne_of_lt m2⟩
    show k ∈ t.gh
    rw [w.gh]
    exact m1
  · rw [if_neg ed] at hk ⊢
    have hg' : g ∈ (t.lv1 n g).gm := hg
    rw [if_pos hg'] at hk
    cases hk
    show g ∈ t.gh
    rw [w.gh]
    exact hg
section
variable {P : Program} {w : World} {K : PySem.W.Frag} {mg : Str → Option Value} {base : Heap} {CM CT : Addr}
/-- the table's own methods -/
structure Tm (P : Program) (w : World) (K : PySem.W.Frag) (mg : Str → Option Value) (base : Heap) (CT CM : Addr) : Prop where
  c : Cn K CT tbN
  cM : Cn K CM mtN
  newG : MT P w K mg base 2 CT "new_group" ["self", "master"] (spNewG CT CM)
  join : MT P w K mg base 1 CT "join" ["self", "mount", "group"] (spJoin CT CM)
  follow : MT P w K mg base 1 CT "follow" ["self", "mount", "group"] (spFollow CT CM)
  unf : MT P w K mg base 1 CT "unfollow" ["self", "mount"] (spUnf CT CM)
  leave : MT P w K mg base 3 CT "leave" ["self", "mount"] (spLeave CT CM)
abbrev nMk : List Str := ["table", "mount", "kind", "followed", "group", "master"]
theorem ok_mk {f : Addr} {fd : FuncData} {k : Nat} (F : Fun K "make_one" "make_one" sMakeOne f fd) (M : Tm P w K mg base CT CM) : FnOk P w K mg base CX0 (k + 4) f fd ["table", "mount", "kind"] (spMk CT CM) := by
  have c := M.c
  have cM := M.cM
  obtain ⟨fN, fdN, mN, FN, bN⟩ := M.newG
  obtain ⟨fJ, fdJ, mJ, FJ, bJ⟩ := M.join
  obtain ⟨fF, fdF, mF, FF, bF⟩ := M.follow
  obtain ⟨fU, fdU, mU, FU, bU⟩ := M.unf
  obtain ⟨fL, fdL, mL, FL, bL⟩ := M.leave
  refine F.ok scMk (fun vs H Q E h => ?_) (fun cdv A outer s H vs Q E hr h => ?_)
  · obtain ⟨d, t, B, n, kind, rfl, _⟩ := h
    rfl
  · obtain ⟨d, t, B, n, kind, rfl, h, wf, z, hB, ln, q⟩ := h
    have hr1 : Room 1 (cxOf CX0 P w K mg base nMk "make_one" (defScope sMakeOne) f cdv A outer s H E).nox.A := hr.mono (by omega)
    have hr2 : Room 2 (cxOf CX0 P w K mg base nMk "make_one" (defScope sMakeOne) f cdv A outer s H E).nox.A := hr.mono (by omega)
    have hr3 : Room 3 (cxOf CX0 P w K mg base nMk "make_one" (defScope sMakeOne) f cdv A outer s H E).nox.A := hr.mono (by omega)
    have hu := units1 hr1
    refine ⟨_, pss_one (ps_if (pt_cmpR op_eq (pv 2) pe_str (nomark _))
      (pss_cons (ps_fld (pv 1) pe_bl rfl) (pss_one (ps_if (pt_cmpR op_isN (pe_fld (pv 1) rfl) pe_non (nomark _)) (pss_cons (ps_set (i := 3) scMk.nd rfl (.inl rfl) (pe_fld (pv 1) rfl)) (pss_cons (ps_expr (pe_meth (pv 0) c.cl mU FU hr1 bU .nil pass0 (pa_cons (pv 1) pa_nil))) (pss_one (ps_expr (pe_meth (pv 0) c.cl mJ FJ hr1 bJ .nil pass0 (pa_cons (pv 1) (pa_cons (pe_meth (pv 0) c.cl mN FN hr2 bN .nil pass0 (pa_cons (pv 3) pa_nil)) pa_nil))))))) pss_nil)))
      (pss_one (ps_if (pt_cmpR op_eq (pv 2) pe_str (nomark _))
        (pss_one (ps_if (pt_cmpR op_notN (pe_fld (pv 1) rfl) pe_non (nomark _)) (pss_cons (ps_par (i := 4) (j := 5) rfl scMk.nd rfl rfl (by decide) rfl rfl (pa_cons (pe_fld (pv 1) rfl) (pa_cons (pe_dget hu (pe_fld (pv 0) rfl) (pe_fld (pv 1) rfl) (fun _ _ => rfl)) pa_nil)) (by rfl)) (pss_cons (ps_expr (pe_meth (pv 0) c.cl mL FL hr3 bL .nil pass0 (pa_cons (pv 1) pa_nil))) (pss_one (ps_expr (pe_meth (pv 0) c.cl mF FF hr1 bF .nil pass0 (pa_cons (pv 1) (pa_cons (pe_ifExp (pt_cmp (pc_din hu (pv 4) (pe_fld (pv 0) rfl))) (pv 4) (pv 5)) pa_nil))))))) pss_nil))
        (pss_cons (ps_expr (pe_meth (pv 0) c.cl mU FU hr1 bU .nil pass0 (pa_cons (pv 1) pa_nil))) (pss_cons (ps_expr (pe_meth (pv 0) c.cl mL FL hr3 bL .nil pass0 (pa_cons (pv 1) pa_nil))) (pss_one (ps_fld (pv 1) (pe_cmpR op_eq (pv 2) pe_str (nomark _)) rfl))))))), ?_⟩
    have ds : ∀ {a b : Str}, a ≠ b → decide (V.str a = V.str b) = false := fun {a b} n => decide_eq_false fun h => n (V.str.inj h)
    refine ⟨_, rfl, rfl, _, rfl, ?_⟩
    by_cases e1 : kind = "sharing"
    · subst e1
      have em : t.make n "sharing" = t.mkS n := by
        unfold Tb.make
        rw [if_pos rfl]
      rw [em] at q
      refine iteT ⟨_, rfl, d.a (.mt n), CM, d.dm n, _, rfl, h.all (.mt n) ln, cM.cl, cM.no _ (by decide +kernel), by show 11 < 1000; decide, ?_⟩
      obtain ⟨h1, f1⟩ := h.updM (m := { t.mn n with ma := false }) (o := .ins CM (d.dm n) (putF "marked" (.bl false) (mnF n (t.mn n)))) ln rfl
      generalize hH1 : upd H (d.a (.mt n)) (.ins CM (d.dm n) (putF "marked" (.bl false) (mnF n (t.mn n)))) = H1 at h1 f1 ⊢
      have hm1 : H1 (d.a (.mt n)) = some (.ins CM (d.dm n) (mnF n { t.mn n with ma := false })) := by
        rw [h1.all (.mt n) ln]
        show some (HO.ins CM (d.dm n) (mnF n (fu t.mn n _ n))) = _
        rw [fu_same]
      refine ⟨_, rfl, d.a (.mt n), CM, d.dm n, _, oi (t.mn n).gr, rfl, hm1, cM.cl, cM.no _ (by decide +kernel), rfl, rfl, _, rfl, ?_⟩
      cases e : (t.mn n).gr with
      | some g =>
        have e2 : t.mkS n = t.setM n { t.mn n with ma := false } := by
          unfold Tb.mkS
          rw [e]
        rw [e2] at q
        exact iteF (q _ d h1 f1 rfl fun _ => rfl)
      | none =>
        have e2 : t.mkS n = (((t.setM n { t.mn n with ma := false }).unf n).newG (t.mn n).fo).join n t.cg := by
          unfold Tb.mkS
          rw [e]
        rw [e2] at q
        refine iteT ⟨_, rfl, d.a (.mt n), CM, d.dm n, _, oi (t.mn n).fo, rfl, hm1, cM.cl, cM.no _ (by decide +kernel), rfl, ?_⟩
        have z1 : Sz B (t.setM n { t.mn n with ma := false }) := ⟨z.b, z.kn, z.kp, z.ts, z.os, z.gm, z.gb, z.gh, z.me, z.be⟩
        refine ⟨_, rfl, d.a .tab, d.dT, _, rfl, h1.all .tab trivial, rfl, _, rfl, d, _, n, rfl, h1, ln, fun k hk => ?_, fun H2 h2 f2 => ?_⟩
        · rw [setM_mn] at hk
          obtain ⟨k1, k2⟩ := wf.fo n ln k hk
          exact ⟨by show k ∈ t.gh; rw [wf.gh]; exact k1, (wf.be k k1 n).mpr ⟨ln, e, hk⟩⟩
        obtain ⟨u1, u2, u3, u4, u5, u6, u7⟩ := unf_kn (t.setM n { t.mn n with ma := false }) n
        have no : t.cg ∉ t.gm := fun hc => Int.lt_irrefl _ (wf.lt _ hc)
        have z2 := unf_sz z1 n
        refine ⟨_, rfl, d.a .tab, d.dT, _, rfl, h2.all .tab trivial, rfl, _, rfl, _, rfl, d.a .tab, d.dT, _, rfl, h2.all .tab trivial, rfl, _, rfl, d, _, (t.mn n).fo, B, rfl, h2, z2, ?_, ?_, ?_, fun H3 d3 h3 f3 et em => ?_⟩
        · rw [u2, u5]
          exact no
        · rw [u3, u5]
          show t.cg ∉ t.gb
          rw [wf.gb]
          exact no
        · rw [u4, u5]
          show t.cg ∉ t.gh
          rw [wf.gh]
          exact no
        have ec : ((t.setM n { t.mn n with ma := false }).unf n).cg = t.cg := u5
        refine ⟨d3, _, B + 1, n, t.cg, by rw [et, em, ec]; rfl, h3, newG_sz z2 (by omega) _, ?_, ?_, fun H4 h4 f4 => q H4 d3 h4 (f1.trans (f2.trans (f3.trans f4))) et em⟩
        · show n ∈ ((t.setM n { t.mn n with ma := false }).unf n).kn
          rw [u1]
          exact ln
        · show t.cg ∈ ((t.setM n { t.mn n with ma := false }).unf n).gb ++ [((t.setM n { t.mn n with ma := false }).unf n).cg]
          rw [ec]
          simp
    · rw [ds e1]
      refine iteF ⟨_, rfl, rfl, _, rfl, ?_⟩
      by_cases e2 : kind = "following"
      · subst e2
        have em : t.make n "following" = t.mkF n := by
          unfold Tb.make
          rw [if_neg e1, if_pos rfl]
        rw [em] at q
        refine iteT ⟨_, rfl, d.a (.mt n), CM, d.dm n, _, oi (t.mn n).gr, rfl, h.all (.mt n) ln, cM.cl, cM.no _ (by decide +kernel), rfl, rfl, _, rfl, ?_⟩
        cases e : (t.mn n).gr with
        | none =>
          have e3 : t.mkF n = t := by
            unfold Tb.mkF
            rw [e]
          rw [e3] at q
          exact iteF (q H d h (Fr.refl _ _ _) rfl fun _ => rfl)
        | some g =>
          have e3 : t.mkF n = (t.leave n).follow n (if g ∈ (t.leave n).gm then some g else t.ms g) := by
            unfold Tb.mkF
            rw [e]
          rw [e3] at q
          obtain ⟨lg, _⟩ := wf.gr n ln g e
          have hl : (mnF n (t.mn n)).lookup ("group" : Str) = some (.int g) := by
            show some (oi (t.mn n).gr) = _
            rw [e]
            rfl
          refine iteT ⟨_, rfl, d.a (.mt n), CM, d.dm n, _, .int g, rfl, h.all (.mt n) ln, cM.cl, cM.no _ (by decide +kernel), hl, _, rfl, d.a .tab, CT, d.dT, _, .ref (d.a .ms), rfl, h.all .tab trivial, c.cl, c.no _ (by decide +kernel), rfl, _, rfl, d.a (.mt n), CM, d.dm n, _, .int g, rfl, h.all (.mt n) ln, cM.cl, cM.no _ (by decide +kernel), hl, d.a .ms, oi (t.ms g), rfl, ?_, _, _, rfl, ?_⟩
          · rw [← val_dk (f := fun g => oi (t.ms g)) lg]
            exact DGet.k (k := (Sum.inl g : Key)) (h.all .ms trivial)
          refine ⟨_, rfl, d.a .tab, d.dT, _, rfl, h.all .tab trivial, rfl, _, rfl, d, t, B, n, rfl, h, z, by omega, ln, fun g' hg' => ?_, fun H2 h2 f2 => ?_⟩
          · rw [e] at hg'
            cases hg'
            exact ⟨wf.gok lg, (wf.me g lg n).mpr ⟨ln, e⟩⟩
          refine ⟨_, rfl, d.a .tab, d.dT, _, rfl, h2.all .tab trivial, rfl, _, rfl, _, rfl, _, rfl, d.a .tab, CT, d.dT, _, .ref (d.a .ms), rfl, h2.all .tab trivial, c.cl, c.no _ (by decide +kernel), rfl, d.a .ms, _, rfl, DGet.k (k := (Sum.inl g : Key)) (h2.all .ms trivial), _, rfl, ?_⟩
          have zl := leave_sz z (by omega) n
          have fin : ∀ v, v = oi (if g ∈ (t.leave n).gm then some g else t.ms g) → spFollow CT CM [.ref (d.a .tab), .ref (d.a (.mt n)), v] H2 (fun _ H3 => Q .non H3) (fun _ _ _ => False) := fun v hv => ⟨d, _, _, n, _, by rw [hv], h2, zl, by rw [leave_kn]; exact ln, leave_g wf e lg, fun H3 h3 f3 => q H3 d h3 (f2.trans f3) rfl fun _ => rfl⟩
          by_cases hin : g ∈ (t.leave n).gm
          · rw [val_dk hin]
            rw [if_pos hin] at fin
            exact iteT ⟨_, rfl, fin _ rfl⟩
          · rw [val_dk_no hin]
            rw [if_neg hin] at fin
            exact iteF ⟨_, rfl, fin _ rfl⟩
      · rw [ds e2]
        have em : t.make n kind = t.mkA n (decide (kind = "unbindable")) := by
          unfold Tb.make
          rw [if_neg e1, if_neg e2]
        rw [em] at q
        refine iteF ⟨_, rfl, d.a .tab, d.dT, _, rfl, h.all .tab trivial, rfl, _, rfl, d, t, n, rfl, h, ln, fun k hk => ?_, fun H2 h2 f2 => ?_⟩
        · obtain ⟨k1, k2⟩ := wf.fo n ln k hk
          exact ⟨by rw [wf.gh]; exact k1, (wf.be k k1 n).mpr ⟨ln, k2, hk⟩⟩
        obtain ⟨u1, u2, u3, u4, u5, u6, u7⟩ := unf_kn t n
        have ln2 : n ∈ (t.unf n).kn := by
          rw [u1]
          exact ln
        refine ⟨_, rfl, d.a .tab, d.dT, _, rfl, h2.all .tab trivial, rfl, _, rfl, d, _, B, n, rfl, h2, unf_sz z n, by omega, ln2, fun g hg => ?_, fun H3 h3 f3 => ?_⟩
        · rw [unf_gr] at hg
          obtain ⟨lg, hf⟩ := wf.gr n ln g hg
          rw [unf_id hf]
          exact ⟨wf.gok lg, (wf.me g lg n).mpr ⟨ln, hg⟩⟩
        have ln3 : n ∈ ((t.unf n).leave n).kn := by
          rw [leave_kn]
          exact ln2
        refine ⟨_, rfl, rfl, _, rfl, d.a (.mt n), CM, d.dm n, _, rfl, h3.all (.mt n) ln3, cM.cl, cM.no _ (by decide +kernel), by show 11 < 1000; decide, ?_⟩
        have eb : decide (V.str kind = V.str "unbindable") = decide (kind = "unbindable") := decide_eq_decide.mpr ⟨V.str.inj, congrArg _⟩
        rw [eb]
        obtain ⟨h4, f4⟩ := h3.updM (m := { ((t.unf n).leave n).mn n with ma := decide (kind = "unbindable") }) (o := .ins CM (d.dm n) (putF "marked" (.bl (decide (kind = "unbindable"))) (mnF n (((t.unf n).leave n).mn n)))) ln3 rfl
        exact q _ d h4 (f2.trans (f3.trans f4)) rfl fun _ => rfl
end
end Rp
set_option autoImplicit true
set_option Elab.async false
set_option linter.all false
set_option maxRecDepth 100000
set_option maxHeartbeats 8000000
namespace Rp
open PySem PySem.Spec PyProof.Rows L2 Cm Ob Tx
def mn0 (sp : Int) (tr : Str) (rv : V) : Mn := ⟨sp, tr, rv, none, .non, none, none, false, false, .non⟩
def Tb.newM (t : Tb) (sp : Int) (tr : Str) (rv : V) : Tb := { t with cm := t.cm + 1, kn := t.kn ++ [t.cm], mn := fu t.mn t.cm (mn0 sp tr rv), kp := t.kp ++ [t.cm], pc := fu t.pc t.cm [] }
/-- the same roles, but those of a new mount -/
structure Ext1 (d d' : Ad) (n : Int) : Prop where
  a : ∀ r, r ≠ .mt n → r ≠ .pc n → d'.a r = d.a r
  dT : d'.dT = d.dT
  dm : ∀ k, k ≠ n → d'.dm k = d.dm k
def spNM (CT CM : Addr) : Sp := fun vs H Q _ => ∃ d t B sp tr rv, vs = [.ref (d.a .tab), .int sp, .str tr, rv] ∧ TabAt CT CM H d t ∧ Sz B t ∧ t.cm ∉ t.kn ∧ t.cm ∉ t.kp ∧ ∀ H' d', TabAt CT CM H' d' (t.newM sp tr rv) → Fr H d t H' d' (t.newM sp tr rv) → Ext1 d d' t.cm → H (d'.a (.mt t.cm)) = none → Q (.ref (d'.a (.mt t.cm))) H'
section
variable {CT CM : Addr} {H H' : Hp} {d : Ad} {t t' : Tb}
theorem TabAt.dm {n : Int} {p : Addr} (h : TabAt CT CM H d t) (hn : n ∉ t.kn) : TabAt CT CM H { d with dm := fu d.dm n p } t ∧ Fr H d t H { d with dm := fu d.dm n p } t := by
  refine ⟨⟨fun r l => ?_, h.inj⟩, fun b o hb q => ⟨hb, q⟩⟩
  have := h.all r l
  cases r <;> first | exact this | skip
  rename_i k
  rw [this]
  show some (HO.ins CM (d.dm k) _) = some (HO.ins CM (fu d.dm n p k) _)
  rw [fu_ne (fun e => hn (by rw [← e]; exact l))]
end
section
variable {P : Program} {w : World} {K : PySem.W.Frag} {mg : Str → Option Value} {base : Heap} {CM CT : Addr}
theorem ok_nm {f fN fI : Addr} {fd fdN fdI : FuncData} {k : Nat} (F : Fun K "new_mount" "Table.new_mount" sNewM f fd) (c : Cn K CT tbN) (cM : Cn K CM mtN) (mN : Meth K CT "next" fN) (FN : FnOk P w K mg base CX0 1 fN fdN ["self", "what"] (spNext CT)) (bN : Binds K fdN ["self", "what"] [])
    (MK : Mk K CM fI) (gM : mg "Mount" = some (.ref CM)) (FI : FnOk P w K mg base CX0 1 fI fdI ["self", "number", "space", "tree", "root"] (spMtI CM)) (bI : Binds K fdI ["self", "number", "space", "tree", "root"] []) :
    FnOk P w K mg base CX0 (k + 3) f fd ["self", "space", "tree", "root"] (spNM CT CM) := by
  refine F.ok scNewM (fun vs H Q E h => ?_) (fun cdv A outer s H vs Q E hr h => ?_)
  · obtain ⟨d, t, B, sp, tr, rv, rfl, _⟩ := h
    rfl
  · obtain ⟨d, t, B, sp, tr, rv, rfl, h, z, n1, n2, q⟩ := h
    have hr1 : Room 1 (cxOf CX0 P w K mg base ["self", "space", "tree", "root", "found"] "Table.new_mount" (defScope sNewM) f cdv A outer s H E).nox.A := hr.mono (by omega)
    have hr2 : Room 2 (cxOf CX0 P w K mg base ["self", "space", "tree", "root", "found"] "Table.new_mount" (defScope sNewM) f cdv A outer s H E).nox.A := hr.mono (by omega)
    have hu := units1 hr1
    refine ⟨_, pss_cons (ps_set (i := 4) scNewM.nd rfl (.inl rfl) (pe_make MK FI hr2 (by rfl) gM bI .nil pass0 (pa_cons (pe_meth (pv 0) c.cl mN FN hr1 bN .nil pass0 (pa_cons pe_str pa_nil)) (pa_cons (pv 1) (pa_cons (pv 2) (pa_cons (pv 3) pa_nil))))))
      (pss_cons (ps_dput hu (pe_fld (pv 0) rfl) (pe_fld (pv 4) rfl) (pv 4) rfl) (pss_cons (ps_dput hu (pe_fld (pv 0) rfl) (pe_fld (pv 4) rfl) pe_dnewT rfl) (pss_one (ps_ret (pv 4))))), ?_⟩
    refine ⟨_, rfl, d.a .tab, d.dT, _, rfl, h.all .tab trivial, rfl, d.a .tab, d.dT, _, d.a .ct, _, "mount", t.cm, rfl, h.all .tab trivial, rfl, h.all .ct trivial, rfl, by show 3 ≤ 100; decide, fun H1 b1 hc1 => ?_⟩
    obtain ⟨h1, f1⟩ := h.mut (t' := { t with cm := t.cm + 1 }) (r0 := .ct) (fun r => by cases r <;> exact Iff.rfl) trivial b1 hc1 (fun r l ne => by cases r <;> first | rfl | exact absurd rfl ne)
    refine ⟨_, rfl, _, rfl, _, rfl, fun m dm hm hdm ne => ?_⟩
    refine ⟨m, dm, .int t.cm, .int sp, .str tr, rv, rfl, upd_same, fun H2 b2 hm2 => ⟨rfl, ?_⟩⟩
    have hne : ∀ {b o}, H1 b = some o → b ≠ m ∧ b ≠ dm := fun {b o} h => ⟨ne_of_none h hm, ne_of_none h hdm⟩
    have up2 : Same H1 H2 := fun b o h => by
      refine b2 b o (hne h).1 ?_
      rw [upd_ne (hne h).1, upd_ne (hne h).2]
      exact h
    have hm0 : H m = none := by
      cases e : H m with
      | none => rfl
      | some o =>
        by_cases zc : m = d.a .ct
        · rw [zc, hc1] at hm
          cases hm
        · rw [b1 m o zc e] at hm
          cases hm
    have h2 := h1.same up2
    refine ⟨_, rfl, _, rfl, d.a .tab, CT, d.dT, _, .ref (d.a .kn), rfl, h2.all .tab trivial, c.cl, c.no _ (by decide +kernel), rfl, _, rfl, m, CM, dm, _, .int t.cm, rfl, hm2, cM.cl, cM.no _ (by decide +kernel), rfl, d.a .kn, _, rfl, DPut.k (k := (Sum.inl t.cm : Key)) (h2.all .kn trivial) (z.lt (by rw [dk_len]; exact z.kn)), ?_⟩
    obtain ⟨hd1, fd1⟩ := h1.dm (n := t.cm) (p := dm) n1
    have nmk : m ≠ d.a .kn := h1.out hm .kn trivial
    obtain ⟨h3, f3⟩ := hd1.add (t' := { t with cm := t.cm + 1, kn := t.kn ++ [t.cm], mn := fu t.mn t.cm (mn0 sp tr rv) }) (r0 := .kn) (r1 := .mt t.cm) (H' := upd H2 (d.a .kn) (.dK (putK (dk t.kn fun n => .ref (d.a (.mt n))) (Sum.inl t.cm) (.ref m)))) hm
      (fun r => by
        cases r <;> first | exact ⟨fun _ => .inl trivial, fun _ => trivial⟩ | exact ⟨.inl, fun z => z.resolve_right (fun e => by cases e)⟩ | skip
        show _ ∈ t.kn ++ [t.cm] ↔ _ ∈ t.kn ∨ _
        rw [List.mem_append, List.mem_singleton]
        exact or_congr_right ⟨fun e => by rw [e], fun e => by cases e; rfl⟩) n1 trivial
      (by
        rw [upd_ne nmk, hm2]
        show some (HO.ins CM dm _) = some (HO.ins CM (fu d.dm t.cm dm t.cm) (mnF t.cm (fu t.mn t.cm (mn0 sp tr rv) t.cm)))
        rw [fu_same, fu_same]
        rfl)
      (by
        show upd _ _ _ (d.a .kn) = _
        rw [upd_same, put_dk_new n1]
        refine congrArg some (congrArg HO.dK (dk_cong fun g _ => ?_))
        by_cases e : g = t.cm
        · rw [e, fu_same, Ad.put_same]
        · rw [fu_ne e, Ad.put_ne (fun x => e (Role.mt.inj x))])
      ((Same.but _ up2).trans But.upd)
      (fun r l ne => by
        cases r <;> first | rfl | exact absurd rfl ne | skip
        rename_i g
        have e : g ≠ t.cm := fun e => n1 (by rw [← e]; exact l)
        show HO.ins CM (fu d.dm t.cm dm g) (mnF g (fu t.mn t.cm (mn0 sp tr rv) g)) = HO.ins CM (fu d.dm t.cm dm g) (mnF g (t.mn g))
        rw [fu_ne (f := t.mn) e])
    have hm3 : upd H2 (d.a .kn) (.dK (putK (dk t.kn fun n => .ref (d.a (.mt n))) (Sum.inl t.cm) (.ref m))) m = some (.ins CM dm (mtF (.int t.cm) (.int sp) (.str tr) rv .non .non .non .non (.bl false) (.bl false) .non)) := by
      rw [upd_ne nmk]
      exact hm2
    generalize hH3 : upd H2 (d.a .kn) (.dK (putK (dk t.kn fun n => .ref (d.a (.mt n))) (Sum.inl t.cm) (.ref m))) = H3 at h3 f3 hm3 ⊢
    intro p2 hp2
    have c4 := same_new (o := HO.dT []) hp2
    have h3' := h3.same c4
    refine ⟨_, rfl, d.a .tab, CT, d.dT, _, .ref (d.a .pl), rfl, h3'.all .tab trivial, c.cl, c.no _ (by decide +kernel), rfl, _, rfl, m, CM, dm, _, .int t.cm, rfl, c4 _ _ hm3, cM.cl, cM.no _ (by decide +kernel), rfl, d.a .pl, _, rfl, DPut.k (k := (Sum.inl t.cm : Key)) (h3'.all .pl trivial) (z.lt (by rw [dk_len]; exact z.kp)), ?_⟩
    have np2 : p2 ≠ d.a .pl := h3.out hp2 .pl trivial
    obtain ⟨h4, f4⟩ := h3.add (t' := t.newM sp tr rv) (r0 := .pl) (r1 := .pc t.cm) (H' := upd (upd H3 p2 (.dT [])) (d.a .pl) (.dK (putK (dk t.kp fun n => .ref (d.a (.pc n))) (Sum.inl t.cm) (.ref p2)))) hp2
      (fun r => by
        cases r <;> first | exact ⟨fun _ => .inl trivial, fun _ => trivial⟩ | exact ⟨.inl, fun z => z.resolve_right (fun e => by cases e)⟩ | skip
        show _ ∈ t.kp ++ [t.cm] ↔ _ ∈ t.kp ∨ _
        rw [List.mem_append, List.mem_singleton]
        exact or_congr_right ⟨fun e => by rw [e], fun e => by cases e; rfl⟩) n2 trivial
      (by rw [upd_ne np2, upd_same]; show some (HO.dT []) = some (HO.dT (fu t.pc t.cm [] t.cm)); rw [fu_same])
      (by
        show upd _ _ _ (d.a .pl) = _
        rw [upd_same, put_dk_new n2]
        refine congrArg some (congrArg HO.dK (dk_cong fun g _ => ?_))
        by_cases e : g = t.cm
        · rw [e, fu_same, Ad.put_same]
        · rw [fu_ne e, Ad.put_ne (fun x => e (Role.pc.inj x))]
          rfl)
      ((Same.but _ c4).trans But.upd)
      (fun r l ne => by
        cases r <;> first | rfl | exact absurd rfl ne | skip
        rename_i g
        have e : g ≠ t.cm := fun e => n2 (by rw [← e]; exact l)
        show HO.dT (fu t.pc t.cm [] g) = HO.dT (t.pc g)
        rw [fu_ne e])
    have ea : ((({ d with dm := fu d.dm t.cm dm } : Ad).put (.mt t.cm) m).put (.pc t.cm) p2).a (.mt t.cm) = m := by
      rw [Ad.put_ne (by intro e; cases e), Ad.put_same]
    have q' := q _ _ h4 (f1.trans (fd1.trans (f3.trans f4))) ⟨fun r a1 a2 => by rw [Ad.put_ne a2, Ad.put_ne a1], rfl, fun k hk => fu_ne hk⟩ (by rw [ea]; exact hm0)
    rw [ea] at q'
    exact ⟨_, rfl, q'⟩
end
end Rp
set_option Elab.async false
set_option linter.all false
set_option autoImplicit false
set_option maxRecDepth 100000
set_option maxHeartbeats 4000000
/-! groups and masters by themselves: the plain law of kinds -/
namespace Rp
open PySem PySem.Spec PyProof.Rows L2 Cm Ob Tx
structure Vw where
  gr : Int → Option Int
  fo : Int → Option Int
  gm : List Int
  ms : Int → Option Int
/-- the group g has ended -/
def Vw.ended (v : Vw) (g : Int) : Vw := ⟨v.gr, fun k => if v.fo k = some g then v.ms g else v.fo k, del v.gm g, fun j => if v.ms j = some g then v.ms g else v.ms j⟩
def hasR (kn : List Int) (gr : Int → Option Int) (g : Int) : Bool := kn.any fun k => decide (gr k = some g)
theorem hasR_iff {kn : List Int} {gr : Int → Option Int} {g : Int} : hasR kn gr g = true ↔ ∃ k ∈ kn, gr k = some g := by
  unfold hasR
  simp [List.any_eq_true]
def Vw.end1 (v : Vw) (kn : List Int) : Option Int → Vw
  | none => v
  | some g => if hasR kn v.gr g = true then v else v.ended g
def Vw.mkS (v : Vw) (n L : Int) : Vw := match v.gr n with
  | some _ => v
  | none => ⟨fu v.gr n (some L), fu v.fo n none, v.gm ++ [L], fu v.ms L (v.fo n)⟩
def Vw.mkF (v : Vw) (kn : List Int) (n : Int) : Vw := match v.gr n with
  | none => v
  | some g => Vw.end1 ⟨fu v.gr n none, fu v.fo n (some g), v.gm, v.ms⟩ kn (some g)
def Vw.mkA (v : Vw) (kn : List Int) (n : Int) : Vw := Vw.end1 ⟨fu v.gr n none, fu v.fo n none, v.gm, v.ms⟩ kn (v.gr n)
def Vw.make (v : Vw) (kn : List Int) (n : Int) (kind : Str) (L : Int) : Vw := if kind = "sharing" then v.mkS n L else if kind = "following" then v.mkF kn n else v.mkA kn n
def Vw.clone (v : Vw) (o n : Int) (tru : Bool) : Vw := ⟨fu v.gr n (if tru then v.gr o else none), fu v.fo n (match v.gr o with | none => v.fo o | some g => if tru then none else some g), v.gm, v.ms⟩
/-- v and u, but for the names of groups -/
structure Rv (p : Int → Int) (kn : List Int) (v u : Vw) : Prop where
  inj : ∀ a ∈ v.gm, ∀ b ∈ v.gm, p a = p b → a = b
  gm : ∀ a ∈ v.gm, p a ∈ u.gm
  gr : ∀ k ∈ kn, u.gr k = (v.gr k).map p
  grm : ∀ k ∈ kn, ∀ l, v.gr k = some l → l ∈ v.gm
  fo : ∀ k ∈ kn, u.fo k = (v.fo k).map p
  fom : ∀ k ∈ kn, ∀ l, v.fo k = some l → l ∈ v.gm
  ms : ∀ l ∈ v.gm, u.ms (p l) = (v.ms l).map p
  msm : ∀ l ∈ v.gm, ∀ k, v.ms l = some k → k ∈ v.gm
theorem Rv.some_iff {p : Int → Int} {kn : List Int} {v u : Vw} (R : Rv p kn v u) {x : Option Int} (hx : ∀ l, x = some l → l ∈ v.gm) {g : Int} (hg : g ∈ v.gm) : x.map p = some (p g) ↔ x = some g := by
  cases x with
  | none => simp
  | some l =>
    constructor
    · intro h
      have h : p l = p g := by simpa using h
      rw [R.inj l (hx l rfl) g hg h]
    · intro h
      rw [h]
      rfl
theorem Rv.has {p : Int → Int} {kn : List Int} {v u : Vw} (R : Rv p kn v u) {g : Int} (hg : g ∈ v.gm) : hasR kn u.gr (p g) = hasR kn v.gr g := by
  unfold hasR
  have : ∀ l : List Int, (∀ k ∈ l, k ∈ kn) → (l.any fun k => decide (u.gr k = some (p g))) = l.any fun k => decide (v.gr k = some g) := by
    intro l
    induction l with
    | nil => intro _; rfl
    | cons a r ih =>
      intro h
      rw [List.any_cons, List.any_cons, ih fun k hk => h k (List.mem_cons_of_mem _ hk)]
      congr 1
      have ha := h a (List.mem_cons_self ..)
      rw [R.gr a ha]
      exact decide_eq_decide.mpr (R.some_iff (R.grm a ha) hg)
  exact this kn fun _ h => h
theorem Rv.ended {p : Int → Int} {kn : List Int} {v u : Vw} (R : Rv p kn v u) {g : Int} (hg : g ∈ v.gm) (hs : v.ms g ≠ some g) (hn : ∀ k ∈ kn, v.gr k ≠ some g) : Rv p kn (v.ended g) (u.ended (p g)) := by
  have hms : ∀ x : Option Int, (∀ l, x = some l → l ∈ v.gm) → (if x.map p = some (p g) then u.ms (p g) else x.map p) = (if x = some g then v.ms g else x).map p := fun x hx => by
    by_cases e : x = some g
    · rw [if_pos e, if_pos ((R.some_iff hx hg).mpr e), R.ms g hg]
    · rw [if_neg e, if_neg fun z => e ((R.some_iff hx hg).mp z)]
  have hm2 : ∀ x : Option Int, (∀ l, x = some l → l ∈ v.gm) → ∀ l, (if x = some g then v.ms g else x) = some l → l ∈ del v.gm g := fun x hx l h => by
    by_cases e : x = some g
    · rw [if_pos e] at h
      exact mem_del.mpr ⟨R.msm g hg l h, fun z => hs (by rw [h, z])⟩
    · rw [if_neg e] at h
      exact mem_del.mpr ⟨hx l h, fun z => e (by rw [h, z])⟩
  refine ⟨fun a ha b hb => R.inj a (mem_del.mp ha).1 b (mem_del.mp hb).1, fun a ha => ?_, R.gr, fun k hk l h => mem_del.mpr ⟨R.grm k hk l h, fun z => hn k hk (by have h : v.gr k = some l := h; rw [h, z])⟩, fun k hk => ?_, fun k hk => hm2 (v.fo k) (R.fom k hk), fun l hl => ?_, fun l hl => hm2 (v.ms l) (R.msm l (mem_del.mp hl).1)⟩
  · have h1 := mem_del.mp ha
    exact mem_del.mpr ⟨R.gm a h1.1, fun z => h1.2 (R.inj a h1.1 g hg z)⟩
  · show (if u.fo k = some (p g) then u.ms (p g) else u.fo k) = _
    rw [R.fo k hk]
    exact hms (v.fo k) (R.fom k hk)
  · have h1 := (mem_del.mp hl).1
    show (if u.ms (p l) = some (p g) then u.ms (p g) else u.ms (p l)) = _
    rw [R.ms l h1]
    exact hms (v.ms l) (R.msm l h1)
theorem Rv.end1 {p : Int → Int} {kn : List Int} {v u : Vw} (R : Rv p kn v u) {x : Option Int} (hx : ∀ l, x = some l → l ∈ v.gm ∧ v.ms l ≠ some l) : Rv p kn (v.end1 kn x) (u.end1 kn (x.map p)) := by
  cases x with
  | none => exact R
  | some g =>
    obtain ⟨hg, hs⟩ := hx g rfl
    show Rv p kn (if hasR kn v.gr g = true then v else v.ended g) (if hasR kn u.gr (p g) = true then u else u.ended (p g))
    rw [R.has hg]
    by_cases e : hasR kn v.gr g = true
    · rw [if_pos e, if_pos e]
      exact R
    · rw [if_neg e, if_neg e]
      exact R.ended hg hs fun k hk z => e (hasR_iff.mpr ⟨k, hk, z⟩)
theorem Rv.set {p : Int → Int} {kn : List Int} {v u : Vw} (R : Rv p kn v u) {n : Int} {a b : Option Int} (ha : ∀ l, a = some l → l ∈ v.gm) (hb : ∀ l, b = some l → l ∈ v.gm) : Rv p (kn ++ [n]) ⟨fu v.gr n a, fu v.fo n b, v.gm, v.ms⟩ ⟨fu u.gr n (a.map p), fu u.fo n (b.map p), u.gm, u.ms⟩ := by
  have mem : ∀ k, k ∈ kn ++ [n] → k ≠ n → k ∈ kn := fun k hk e => by
    rcases List.mem_append.mp hk with h | h
    · exact h
    · exact absurd (List.mem_singleton.mp h) e
  refine ⟨R.inj, R.gm, fun k hk => ?_, fun k hk l h => ?_, fun k hk => ?_, fun k hk l h => ?_, R.ms, R.msm⟩
  · show fu u.gr n (a.map p) k = (fu v.gr n a k).map p
    by_cases e : k = n
    · rw [e, fu_same, fu_same]
    · rw [fu_ne e, fu_ne e]
      exact R.gr k (mem k hk e)
  · by_cases e : k = n
    · rw [e, show (⟨fu v.gr n a, fu v.fo n b, v.gm, v.ms⟩ : Vw).gr n = fu v.gr n a n from rfl, fu_same] at h
      exact ha l h
    · rw [show (⟨fu v.gr n a, fu v.fo n b, v.gm, v.ms⟩ : Vw).gr k = fu v.gr n a k from rfl, fu_ne e] at h
      exact R.grm k (mem k hk e) l h
  · show fu u.fo n (b.map p) k = (fu v.fo n b k).map p
    by_cases e : k = n
    · rw [e, fu_same, fu_same]
    · rw [fu_ne e, fu_ne e]
      exact R.fo k (mem k hk e)
  · by_cases e : k = n
    · rw [e, show (⟨fu v.gr n a, fu v.fo n b, v.gm, v.ms⟩ : Vw).fo n = fu v.fo n b n from rfl, fu_same] at h
      exact hb l h
    · rw [show (⟨fu v.gr n a, fu v.fo n b, v.gm, v.ms⟩ : Vw).fo k = fu v.fo n b k from rfl, fu_ne e] at h
      exact R.fom k (mem k hk e) l h
theorem Rv.sub {p : Int → Int} {kn kn' : List Int} {v u : Vw} (R : Rv p kn v u) (h : ∀ k ∈ kn', k ∈ kn) : Rv p kn' v u := ⟨R.inj, R.gm, fun k hk => R.gr k (h k hk), fun k hk => R.grm k (h k hk), fun k hk => R.fo k (h k hk), fun k hk => R.fom k (h k hk), R.ms, R.msm⟩
theorem Rv.clone {p : Int → Int} {kn : List Int} {v u : Vw} (R : Rv p kn v u) {o n : Int} (ho : o ∈ kn) (tru : Bool) : Rv p (kn ++ [n]) (v.clone o n tru) (u.clone o n tru) := by
  have e1 : (if tru = true then u.gr o else none) = (if tru = true then v.gr o else none).map p := by
    cases tru
    · rfl
    · exact R.gr o ho
  have e2 : (match u.gr o with | none => u.fo o | some g => if tru = true then none else some g) = (match v.gr o with | none => v.fo o | some g => if tru = true then none else some g).map p := by
    rw [R.gr o ho]
    cases v.gr o with
    | none => exact R.fo o ho
    | some g => cases tru <;> rfl
  have := R.set (n := n) (a := if tru = true then v.gr o else none) (b := match v.gr o with | none => v.fo o | some g => if tru = true then none else some g) (fun l h => by
    cases tru
    · cases h
    · exact R.grm o ho l h) (fun l h => by
    cases e : v.gr o with
    | none =>
      rw [e] at h
      exact R.fom o ho l h
    | some g =>
      rw [e] at h
      cases tru
      · cases h
        exact R.grm o ho _ e
      · cases h)
  rw [← e1, ← e2] at this
  exact this
/-- one step: the same deed, the law's label L and the program's group g -/
theorem Rv.make {p : Int → Int} {kn : List Int} {v u : Vw} (R : Rv p kn v u) {n : Int} (hn : n ∈ kn) (kind : Str) {L g : Int} (hL : L ∉ v.gm) (hg : g ∉ u.gm) (hs : ∀ l ∈ v.gm, v.ms l ≠ some l) :
    ∃ p', Rv p' kn (v.make kn n kind L) (u.make kn n kind g) := by
  have hsub : ∀ k ∈ kn, k ∈ kn ++ [n] := fun k hk => List.mem_append_left _ hk
  unfold Vw.make
  by_cases e1 : kind = "sharing"
  · rw [if_pos e1, if_pos e1]
    unfold Vw.mkS
    rw [R.gr n hn]
    cases e : v.gr n with
    | some l => exact ⟨p, R⟩
    | none =>
      refine ⟨fu p L g, ?_⟩
      have pm : ∀ x : Option Int, (∀ l, x = some l → l ∈ v.gm) → x.map (fu p L g) = x.map p := fun x hx => by
        cases x with
        | none => rfl
        | some l => exact congrArg some (fu_ne fun z => hL (by rw [← z]; exact hx l rfl))
      have pg : ∀ l ∈ v.gm, fu p L g l = p l := fun l hl => fu_ne fun z => hL (by rw [← z]; exact hl)
      have mm : ∀ {l}, l ∈ v.gm ++ [L] → l ≠ L → l ∈ v.gm := fun {l} h e => by
        rcases List.mem_append.mp h with h | h
        · exact h
        · exact absurd (List.mem_singleton.mp h) e
      refine ⟨fun a ha b hb h => ?_, fun a ha => ?_, fun k hk => ?_, fun k hk l h => ?_, fun k hk => ?_, fun k hk l h => ?_, fun l hl => ?_, fun l hl k h => ?_⟩
      · by_cases ea : a = L
        · by_cases eb : b = L
          · rw [ea, eb]
          · rw [ea, fu_same, pg b (mm hb eb)] at h
            exact absurd (by rw [h]; exact R.gm b (mm hb eb)) hg
        · by_cases eb : b = L
          · rw [eb, fu_same, pg a (mm ha ea)] at h
            exact absurd (by rw [← h]; exact R.gm a (mm ha ea)) hg
          · rw [pg a (mm ha ea), pg b (mm hb eb)] at h
            exact R.inj a (mm ha ea) b (mm hb eb) h
      · show fu p L g a ∈ u.gm ++ [g]
        by_cases ea : a = L
        · rw [ea, fu_same]
          simp
        · rw [pg a (mm ha ea)]
          exact List.mem_append_left _ (R.gm a (mm ha ea))
      · show fu u.gr n (some g) k = (fu v.gr n (some L) k).map (fu p L g)
        by_cases ek : k = n
        · rw [ek, fu_same, fu_same]
          exact congrArg some fu_same.symm
        · rw [fu_ne ek, fu_ne ek, R.gr k hk, pm _ (R.grm k hk)]
      · have h : fu v.gr n (some L) k = some l := h
        by_cases ek : k = n
        · rw [ek, fu_same] at h
          cases h
          simp
        · rw [fu_ne ek] at h
          exact List.mem_append_left _ (R.grm k hk l h)
      · show fu u.fo n none k = (fu v.fo n none k).map (fu p L g)
        by_cases ek : k = n
        · rw [ek, fu_same, fu_same]
          rfl
        · rw [fu_ne ek, fu_ne ek, R.fo k hk, pm _ (R.fom k hk)]
      · have h : fu v.fo n none k = some l := h
        by_cases ek : k = n
        · rw [ek, fu_same] at h
          cases h
        · rw [fu_ne ek] at h
          exact List.mem_append_left _ (R.fom k hk l h)
      · show fu u.ms g (u.fo n) (fu p L g l) = (fu v.ms L (v.fo n) l).map (fu p L g)
        by_cases el : l = L
        · rw [el, fu_same, fu_same, fu_same, R.fo n hn, pm _ (R.fom n hn)]
        · have hl' := mm hl el
          rw [pg l hl', fu_ne (f := v.ms) el, fu_ne (fun z => hg (by rw [← z]; exact R.gm l hl')), R.ms l hl', pm _ (R.msm l hl')]
      · have h : fu v.ms L (v.fo n) l = some k := h
        by_cases el : l = L
        · rw [el, fu_same] at h
          exact List.mem_append_left _ (R.fom n hn k h)
        · rw [fu_ne el] at h
          exact List.mem_append_left _ (R.msm l (mm hl el) k h)
  · rw [if_neg e1, if_neg e1]
    by_cases e2 : kind = "following"
    · rw [if_pos e2, if_pos e2]
      unfold Vw.mkF
      rw [R.gr n hn]
      cases e : v.gr n with
      | none => exact ⟨p, R⟩
      | some l =>
        have hl := R.grm n hn l e
        exact ⟨p, ((R.set (n := n) (a := none) (b := some l) (fun l h => by cases h) (fun k h => by cases h; exact hl)).sub hsub).end1 (x := some l) fun k h => by cases h; exact ⟨hl, hs l hl⟩⟩
    · rw [if_neg e2, if_neg e2]
      refine ⟨p, ?_⟩
      unfold Vw.mkA
      rw [R.gr n hn]
      exact ((R.set (n := n) (a := none) (b := none) (fun l h => by cases h) (fun k h => by cases h)).sub hsub).end1 fun k h => ⟨R.grm n hn k h, hs k (R.grm n hn k h)⟩
end Rp
set_option Elab.async false
set_option linter.all false
set_option autoImplicit false
set_option maxRecDepth 100000
set_option maxHeartbeats 4000000
/-! the table's own steps: what is said of groups stays true -/
namespace Rp
open PySem PySem.Spec PyProof.Rows L2 Cm Ob Tx
def Tb.vw (t : Tb) : Vw := ⟨fun k => (t.mn k).gr, fun k => (t.mn k).fo, t.gm, t.ms⟩
theorem mem_addK {l : List Int} {n k : Int} : k ∈ addK l n ↔ k ∈ l ∨ k = n := by
  unfold addK
  split
  · rename_i h
    exact ⟨.inl, fun z => z.elim id fun e => by rw [e]; exact h⟩
  · rw [List.mem_append, List.mem_singleton]
theorem nd_addK {l : List Int} {n : Int} (h : l.Nodup) : (addK l n).Nodup := by
  unfold addK
  split
  · exact h
  · rename_i hn
    exact List.nodup_append.mpr ⟨h, by simp, fun a ha b hb e => hn (by rw [← List.mem_singleton.mp hb, ← e]; exact ha)⟩
theorem nd_del {l : List Int} {n : Int} (h : l.Nodup) : (del l n).Nodup := h.filter _
/-- all but groups is as it was -/
structure Rest (t t' : Tb) : Prop where
  kn : t'.kn = t.kn
  kp : t'.kp = t.kp
  pc : t'.pc = t.pc
  ts : t'.ts = t.ts
  tp : t'.tp = t.tp
  os : t'.os = t.os
  ow : t'.ow = t.ow
  cm : t'.cm = t.cm
  most : t'.most = t.most
  tr : t'.tr = t.tr
  mn : ∀ k, t'.mn k = { t.mn k with gr := (t'.mn k).gr, fo := (t'.mn k).fo, ma := (t'.mn k).ma }
theorem Rest.refl (t : Tb) : Rest t t := ⟨rfl, rfl, rfl, rfl, rfl, rfl, rfl, rfl, rfl, rfl, fun _ => rfl⟩
theorem Rest.trans {a b c : Tb} (x : Rest a b) (y : Rest b c) : Rest a c := ⟨y.kn.trans x.kn, y.kp.trans x.kp, y.pc.trans x.pc, y.ts.trans x.ts, y.tp.trans x.tp, y.os.trans x.os, y.ow.trans x.ow, y.cm.trans x.cm, y.most.trans x.most, y.tr.trans x.tr, fun k => by rw [y.mn k, x.mn k]⟩
theorem Rest.setM {t : Tb} {n : Int} {m : Mn} (h : m = { t.mn n with gr := m.gr, fo := m.fo, ma := m.ma }) : Rest t (t.setM n m) := ⟨rfl, rfl, rfl, rfl, rfl, rfl, rfl, rfl, rfl, rfl, fun k => by
  show fu t.mn n m k = { t.mn k with gr := (fu t.mn n m k).gr, fo := (fu t.mn n m k).fo, ma := (fu t.mn n m k).ma }
  by_cases e : k = n
  · rw [e, fu_same]
    exact h
  · rw [fu_ne e]⟩
theorem follow_mn (t : Tb) (n : Int) (x : Option Int) : (t.follow n x).mn = fu t.mn n { t.mn n with gr := none, fo := x } := by cases x <;> rfl
theorem follow_be (t : Tb) (n : Int) (x : Option Int) (g : Int) : (t.follow n x).be g = if x = some g then addK (t.be g) n else t.be g := by
  cases x with
  | none => rfl
  | some k =>
    show fu t.be k (addK (t.be k) n) g = _
    by_cases e : g = k
    · rw [e, fu_same, if_pos rfl]
    · rw [fu_ne e, if_neg (fun z => e (Option.some.inj z).symm)]
theorem follow_me (t : Tb) (n : Int) (x : Option Int) : (t.follow n x).me = t.me ∧ (t.follow n x).cg = t.cg := by cases x <;> exact ⟨rfl, rfl⟩
theorem follow_rest (t : Tb) (n : Int) (x : Option Int) : Rest t (t.follow n x) := by
  have : ∀ m : Mn, m = { t.mn n with gr := none, fo := x } → Rest t (t.setM n m) := fun m h => Rest.setM (by rw [h])
  have h := this _ rfl
  cases x <;> exact ⟨h.kn, h.kp, h.pc, h.ts, h.tp, h.os, h.ow, h.cm, h.most, h.tr, h.mn⟩
theorem folM_mn (m : Option Int) : ∀ (l : List Int) (t : Tb) (k : Int), (folM m l t).mn k = if k ∈ l then { t.mn k with gr := none, fo := m } else t.mn k
  | [], t, k => by simp [folM]
  | a :: l, t, k => by
    show (folM m l (t.follow a m)).mn k = _
    rw [folM_mn m l, follow_mn]
    by_cases e : k = a
    · subst e
      rw [fu_same]
      simp
    · rw [fu_ne e]
      simp [e]
theorem folM_be (m : Option Int) : ∀ (l : List Int) (t : Tb) (h n : Int), n ∈ (folM m l t).be h ↔ n ∈ t.be h ∨ (m = some h ∧ n ∈ l)
  | [], t, h, n => by simp [folM]
  | a :: l, t, h, n => by
    show n ∈ (folM m l (t.follow a m)).be h ↔ _
    rw [folM_be m l, follow_be]
    by_cases e : m = some h
    · rw [if_pos e, mem_addK]
      simp [e]
      constructor
      · rintro ((x | x) | x)
        · exact .inl x
        · exact .inr (.inl x)
        · exact .inr (.inr x)
      · rintro (x | x | x)
        · exact .inl (.inl x)
        · exact .inl (.inr x)
        · exact .inr x
    · rw [if_neg e]
      simp [e]
theorem folM_bn (m : Option Int) : ∀ (l : List Int) (t : Tb), (∀ g, (t.be g).Nodup) → ∀ g, ((folM m l t).be g).Nodup
  | [], t, h => h
  | a :: l, t, h => folM_bn m l (t.follow a m) fun g => by
    rw [follow_be]
    split
    · exact nd_addK (h g)
    · exact h g
theorem folM_me (m : Option Int) : ∀ (l : List Int) (t : Tb), (folM m l t).me = t.me ∧ (folM m l t).cg = t.cg
  | [], t => ⟨rfl, rfl⟩
  | a :: l, t => by
    obtain ⟨h1, h2⟩ := folM_me m l (t.follow a m)
    obtain ⟨h3, h4⟩ := follow_me t a m
    exact ⟨h1.trans h3, h2.trans h4⟩
theorem folM_rest (m : Option Int) : ∀ (l : List Int) (t : Tb), Rest t (folM m l t)
  | [], t => Rest.refl t
  | a :: l, t => (follow_rest t a m).trans (folM_rest m l (t.follow a m))
/-- Wf, but groups for which e holds may be without mounts -/
structure We (t : Tb) (e : Int → Prop) : Prop where
  gb : t.gb = t.gm
  gh : t.gh = t.gm
  nd : t.gm.Nodup
  lt : ∀ g ∈ t.gm, g < t.cg
  me : ∀ g ∈ t.gm, ∀ n, n ∈ t.me g ↔ n ∈ t.kn ∧ (t.mn n).gr = some g
  be : ∀ g ∈ t.gm, ∀ n, n ∈ t.be g ↔ n ∈ t.kn ∧ (t.mn n).gr = none ∧ (t.mn n).fo = some g
  mn : ∀ g, (t.me g).Nodup
  bn : ∀ g, (t.be g).Nodup
  mek : ∀ g, ∀ n ∈ t.me g, n ∈ t.kn
  bek : ∀ g, ∀ n ∈ t.be g, n ∈ t.kn
  ne : ∀ g ∈ t.gm, ¬ e g → t.me g ≠ []
  gr : ∀ n ∈ t.kn, ∀ g, (t.mn n).gr = some g → g ∈ t.gm ∧ (t.mn n).fo = none
  fo : ∀ n ∈ t.kn, ∀ g, (t.mn n).fo = some g → g ∈ t.gm ∧ (t.mn n).gr = none
  ms : ∀ g ∈ t.gm, ∀ k, t.ms g = some k → k ∈ t.gm ∧ k < g
abbrev Wg (t : Tb) : Prop := We t fun _ => False
theorem We.wf {t : Tb} (w : Wg t) : Wf t := ⟨w.gb, w.gh, w.lt, w.me, w.be, fun g _ => w.mn g, fun g _ => w.bn g, fun g hg => w.ne g hg id, w.gr, w.fo, w.ms⟩
theorem We.weak {t : Tb} {e e' : Int → Prop} (w : We t e) (h : ∀ g ∈ t.gm, ¬ e' g → t.me g ≠ []) : We t e' := { w with ne := h }
/-- a mount's mark changes, no more -/
theorem We.mark {t : Tb} {e : Int → Prop} (w : We t e) (n : Int) (b : Bool) : We (t.setM n { t.mn n with ma := b }) e := by
  have hg : ∀ k, (fu t.mn n { t.mn n with ma := b } k).gr = (t.mn k).gr := fun k => by
    by_cases h : k = n
    · rw [h, fu_same]
    · rw [fu_ne h]
  have hf : ∀ k, (fu t.mn n { t.mn n with ma := b } k).fo = (t.mn k).fo := fun k => by
    by_cases h : k = n
    · rw [h, fu_same]
    · rw [fu_ne h]
  refine ⟨w.gb, w.gh, w.nd, w.lt, fun g h k => ?_, fun g h k => ?_, w.mn, w.bn, w.mek, w.bek, w.ne, fun k hk g h => ?_, fun k hk g h => ?_, w.ms⟩
  · show k ∈ t.me g ↔ k ∈ t.kn ∧ (fu t.mn n _ k).gr = some g
    rw [hg]
    exact w.me g h k
  · show k ∈ t.be g ↔ k ∈ t.kn ∧ (fu t.mn n _ k).gr = none ∧ (fu t.mn n _ k).fo = some g
    rw [hg, hf]
    exact w.be g h k
  · have h : (fu t.mn n { t.mn n with ma := b } k).gr = some g := h
    show g ∈ t.gm ∧ (fu t.mn n _ k).fo = none
    rw [hg] at h
    rw [hf]
    exact w.gr k hk g h
  · have h : (fu t.mn n { t.mn n with ma := b } k).fo = some g := h
    show g ∈ t.gm ∧ (fu t.mn n _ k).gr = none
    rw [hf] at h
    rw [hg]
    exact w.fo k hk g h
theorem unf_mn (t : Tb) (n k : Int) : (t.unf n).mn k = if k = n then { t.mn n with fo := none } else t.mn k := by
  unfold Tb.unf
  cases e : (t.mn n).fo with
  | none =>
    by_cases h : k = n
    · rw [if_pos h, h]
      show t.mn n = { t.mn n with fo := none }
      rw [← e]
    · rw [if_neg h]
  | some g => rfl
theorem unf_rest (t : Tb) (n : Int) : Rest t (t.unf n) := by
  unfold Tb.unf
  cases e : (t.mn n).fo with
  | none => exact Rest.refl t
  | some g =>
    have h : Rest t (t.setM n { t.mn n with fo := none }) := Rest.setM rfl
    exact ⟨h.kn, h.kp, h.pc, h.ts, h.tp, h.os, h.ow, h.cm, h.most, h.tr, h.mn⟩
theorem We.unf {t : Tb} {e : Int → Prop} (w : We t e) (n : Int) (hn : n ∈ t.kn) : We (t.unf n) e := by
  obtain ⟨u1, u2, u3, u4, u5, u6, u7⟩ := unf_kn t n
  have hbe : ∀ g ∈ t.gm, ∀ k, k ∈ (t.unf n).be g ↔ k ∈ t.be g ∧ k ≠ n := fun g hg k => by
    unfold Tb.unf
    cases e : (t.mn n).fo with
    | none =>
      refine ⟨fun h => ⟨h, fun z => ?_⟩, fun h => h.1⟩
      have := ((w.be g hg k).mp h).2.2
      rw [z, e] at this
      cases this
    | some g0 =>
      show k ∈ fu t.be g0 (del (t.be g0) n) g ↔ _
      by_cases eg : g = g0
      · rw [eg, fu_same, mem_del]
      · rw [fu_ne eg]
        refine ⟨fun h => ⟨h, fun z => ?_⟩, fun h => h.1⟩
        have := ((w.be g hg k).mp h).2.2
        rw [z, e] at this
        exact eg (Option.some.inj this).symm
  have hsub : ∀ g, ∀ k ∈ (t.unf n).be g, k ∈ t.be g := fun g k => by
    unfold Tb.unf
    cases e : (t.mn n).fo with
    | none => exact id
    | some g0 =>
      show k ∈ fu t.be g0 (del (t.be g0) n) g → _
      by_cases eg : g = g0
      · rw [eg, fu_same]
        exact fun h => (mem_del.mp h).1
      · rw [fu_ne eg]
        exact id
  have hnd : ∀ g, ((t.unf n).be g).Nodup := fun g => by
    unfold Tb.unf
    cases e : (t.mn n).fo with
    | none => exact w.bn g
    | some g0 =>
      show (fu t.be g0 (del (t.be g0) n) g).Nodup
      by_cases eg : g = g0
      · rw [eg, fu_same]
        exact nd_del (w.bn g0)
      · rw [fu_ne eg]
        exact w.bn g
  refine ⟨by rw [u3, u2]; exact w.gb, by rw [u4, u2]; exact w.gh, by rw [u2]; exact w.nd, by rw [u2, u5]; exact w.lt, fun g hg k => ?_, fun g hg k => ?_, fun g => by rw [u6]; exact w.mn g, hnd, fun g k h => ?_, fun g k h => ?_, fun g hg => ?_, fun k hk g h => ?_, fun k hk g h => ?_, by rw [u2, u7]; exact w.ms⟩
  · rw [u2] at hg
    rw [u1, u6, unf_mn, w.me g hg k]
    by_cases ek : k = n
    · rw [if_pos ek, ek]
    · rw [if_neg ek]
  · rw [u2] at hg
    rw [u1, hbe g hg k, unf_mn, w.be g hg k]
    by_cases ek : k = n
    · rw [if_pos ek]
      simp [ek]
    · rw [if_neg ek]
      simp [ek]
  · rw [u6] at h
    rw [u1]
    exact w.mek g k h
  · rw [u1]
    exact w.bek g k (hsub g k h)
  · rw [u2] at hg
    rw [u6]
    exact w.ne g hg
  · rw [u1] at hk
    rw [unf_mn] at h ⊢
    rw [u2]
    by_cases ek : k = n
    · rw [if_pos ek] at h ⊢
      exact ⟨(w.gr n hn g h).1, rfl⟩
    · rw [if_neg ek] at h ⊢
      exact w.gr k hk g h
  · rw [u1] at hk
    rw [unf_mn] at h ⊢
    rw [u2]
    by_cases ek : k = n
    · rw [if_pos ek] at h
      cases h
    · rw [if_neg ek] at h ⊢
      exact w.fo k hk g h
/-- a mount is no longer of its group, which may be without mounts now -/
theorem We.lv1 {t : Tb} {n g : Int} (w : Wg t) (hg : (t.mn n).gr = some g) (hn : n ∈ t.kn) : We (t.lv1 n g) (· = g) := by
  have gm := (w.gr n hn g hg).1
  have fn := (w.gr n hn g hg).2
  have hmn : ∀ k, (t.lv1 n g).mn k = if k = n then { t.mn n with gr := none } else t.mn k := fun k => rfl
  have hme : ∀ j, (t.lv1 n g).me j = if j = g then del (t.me g) n else t.me j := fun j => rfl
  refine ⟨w.gb, w.gh, w.nd, w.lt, fun j hj k => ?_, fun j hj k => ?_, fun j => ?_, w.bn, fun j k h => ?_, w.bek, fun j hj h => ?_, fun k hk j h => ?_, fun k hk j h => ?_, w.ms⟩
  · rw [hme, hmn]
    have hj : j ∈ t.gm := hj
    show _ ↔ k ∈ t.kn ∧ _
    have h1 := w.me j hj k
    by_cases ej : j = g
    · rw [if_pos ej, mem_del, ← ej, h1]
      by_cases ek : k = n
      · rw [if_pos ek]
        simp [ek]
      · rw [if_neg ek]
        simp [ek]
    · rw [if_neg ej, h1]
      by_cases ek : k = n
      · rw [if_pos ek, ek, hg]
        simp
        intro _ z
        exact ej z.symm
      · rw [if_neg ek]
  · rw [hmn]
    have hj : j ∈ t.gm := hj
    show k ∈ t.be j ↔ k ∈ t.kn ∧ _
    rw [w.be j hj k]
    by_cases ek : k = n
    · rw [if_pos ek, ek, fn]
      simp
    · rw [if_neg ek]
  · rw [hme]
    split
    · exact nd_del (w.mn g)
    · exact w.mn j
  · rw [hme] at h
    show k ∈ t.kn
    split at h
    · exact w.mek g k (mem_del.mp h).1
    · exact w.mek j k h
  · rw [hme, if_neg h]
    exact w.ne j hj id
  · rw [hmn] at h ⊢
    by_cases ek : k = n
    · rw [if_pos ek] at h
      cases h
    · rw [if_neg ek] at h ⊢
      exact w.gr k hk j h
  · rw [hmn] at h ⊢
    by_cases ek : k = n
    · rw [if_pos ek] at h ⊢
      exact ⟨(w.fo n hn j h).1, rfl⟩
    · rw [if_neg ek] at h ⊢
      exact w.fo k hk j h
theorem ends_mn (t : Tb) (g k : Int) : (t.ends g).mn k = if k ∈ t.be g then { t.mn k with gr := none, fo := t.ms g } else t.mn k := folM_mn (t.ms g) (t.be g) { t with gm := del t.gm g, gb := del t.gb g, gh := del t.gh g } k
theorem ends_be (t : Tb) (g h n : Int) : n ∈ (t.ends g).be h ↔ n ∈ t.be h ∨ (t.ms g = some h ∧ n ∈ t.be g) := folM_be (t.ms g) (t.be g) { t with gm := del t.gm g, gb := del t.gb g, gh := del t.gh g } h n
theorem ends_me (t : Tb) (g : Int) : (t.ends g).me = t.me ∧ (t.ends g).cg = t.cg := folM_me (t.ms g) (t.be g) { t with gm := del t.gm g, gb := del t.gb g, gh := del t.gh g }
theorem ends_ms (t : Tb) (g k : Int) : (t.ends g).ms k = if k ∈ del t.gm g ∧ t.ms k = some g then t.ms g else t.ms k := by
  obtain ⟨a1, a2, _⟩ := folM_ms (t.ms g) (t.be g) { t with gm := del t.gm g, gb := del t.gb g, gh := del t.gh g }
  unfold Tb.ends
  dsimp only
  rw [a1, a2]
theorem ends_rest (t : Tb) (g : Int) : Rest t (t.ends g) := by
  have h := folM_rest (t.ms g) (t.be g) { t with gm := del t.gm g, gb := del t.gb g, gh := del t.gh g }
  exact ⟨h.kn, h.kp, h.pc, h.ts, h.tp, h.os, h.ow, h.cm, h.most, h.tr, h.mn⟩
/-- the group without mounts ends -/
theorem We.ends {t : Tb} {g : Int} (w : We t (· = g)) (hg : g ∈ t.gm) (hm : t.me g = []) : Wg (t.ends g) := by
  obtain ⟨e1, e2, e3, e4⟩ := ends_ks t g
  obtain ⟨m1, m2⟩ := ends_me t g
  have hng : t.ms g ≠ some g := fun z => Int.lt_irrefl _ (w.ms g hg g z).2
  have noG : ∀ k ∈ t.kn, (t.mn k).gr ≠ some g := fun k hk z => by
    have := (w.me g hg k).mpr ⟨hk, z⟩
    rw [hm] at this
    cases this
  have hms : ∀ k, t.ms g = some k → k ∈ del t.gm g ∧ k < g := fun k hk => by
    obtain ⟨a, b⟩ := w.ms g hg k hk
    exact ⟨mem_del.mpr ⟨a, Int.ne_of_lt b⟩, b⟩
  refine ⟨by rw [e3, e2, w.gb], by rw [e4, e2, w.gh], by rw [e2]; exact nd_del w.nd, fun j hj => ?_, fun j hj k => ?_, fun j hj k => ?_, fun j => by rw [m1]; exact w.mn j, folM_bn (t.ms g) (t.be g) { t with gm := del t.gm g, gb := del t.gb g, gh := del t.gh g } w.bn, fun j k h => ?_, fun j k h => ?_, fun j hj _ => ?_, fun k hk j h => ?_, fun k hk j h => ?_, fun j hj k h => ?_⟩
  · rw [e2] at hj
    rw [m2]
    exact w.lt j (mem_del.mp hj).1
  · rw [e2] at hj
    obtain ⟨hj, nj⟩ := mem_del.mp hj
    rw [m1, e1, ends_mn, w.me j hj k]
    by_cases ek : k ∈ t.be g
    · rw [if_pos ek, ((w.be g hg k).mp ek).2.1]
    · rw [if_neg ek]
  · rw [e2] at hj
    obtain ⟨hj, nj⟩ := mem_del.mp hj
    rw [ends_be, e1, ends_mn, w.be j hj k]
    by_cases ek : k ∈ t.be g
    · obtain ⟨k1, k2, k3⟩ := (w.be g hg k).mp ek
      rw [if_pos ek, k2, k3]
      simp [ek, k1]
      intro z
      exact absurd z.symm nj
    · rw [if_neg ek]
      simp [ek]
  · rw [m1] at h
    rw [e1]
    exact w.mek j k h
  · rw [ends_be] at h
    rw [e1]
    exact h.elim (w.bek j k) fun h => w.bek g k h.2
  · rw [e2] at hj
    obtain ⟨hj, nj⟩ := mem_del.mp hj
    rw [m1]
    exact w.ne j hj nj
  · rw [e1] at hk
    rw [ends_mn] at h ⊢
    rw [e2]
    by_cases ek : k ∈ t.be g
    · rw [if_pos ek] at h
      cases h
    · rw [if_neg ek] at h ⊢
      obtain ⟨a, b⟩ := w.gr k hk j h
      exact ⟨mem_del.mpr ⟨a, fun z => noG k hk (by rw [h, z])⟩, b⟩
  · rw [e1] at hk
    rw [ends_mn] at h ⊢
    rw [e2]
    by_cases ek : k ∈ t.be g
    · rw [if_pos ek] at h ⊢
      exact ⟨(hms j h).1, rfl⟩
    · rw [if_neg ek] at h ⊢
      obtain ⟨a, b⟩ := w.fo k hk j h
      exact ⟨mem_del.mpr ⟨a, fun z => ek ((w.be g hg k).mpr ⟨hk, b, by rw [h, z]⟩)⟩, b⟩
  · rw [e2] at hj
    obtain ⟨hj', nj⟩ := mem_del.mp hj
    rw [ends_ms] at h
    rw [e2]
    by_cases ec : j ∈ del t.gm g ∧ t.ms j = some g
    · rw [if_pos ec] at h
      obtain ⟨a, b⟩ := hms k h
      exact ⟨a, Int.lt_trans b (w.ms j hj' g ec.2).2⟩
    · rw [if_neg ec] at h
      obtain ⟨a, b⟩ := w.ms j hj' k h
      exact ⟨mem_del.mpr ⟨a, fun z => ec ⟨hj, by rw [h, z]⟩⟩, b⟩
/-- a mount without a group and without a master follows -/
theorem We.follow {t : Tb} {e : Int → Prop} (w : We t e) {n : Int} (hn : n ∈ t.kn) (h1 : (t.mn n).gr = none) (h2 : (t.mn n).fo = none) {x : Option Int} (hx : ∀ g, x = some g → g ∈ t.gm) : We (t.follow n x) e := by
  obtain ⟨f1, f2, f3, f4, f5⟩ := follow_ms t n x
  obtain ⟨m1, m2⟩ := follow_me t n x
  refine ⟨by rw [f4, f2]; exact w.gb, by rw [f3, f2]; exact w.gh, by rw [f2]; exact w.nd, by rw [f2, m2]; exact w.lt, fun j hj k => ?_, fun j hj k => ?_, fun j => by rw [m1]; exact w.mn j, fun j => ?_, fun j k h => ?_, fun j k h => ?_, fun j hj => ?_, fun k hk j h => ?_, fun k hk j h => ?_, by rw [f2, f1]; exact w.ms⟩
  · rw [f2] at hj
    rw [m1, f5, follow_mn, w.me j hj k]
    by_cases ek : k = n
    · rw [ek, fu_same, h1]
    · rw [fu_ne ek]
  · rw [f2] at hj
    rw [f5, follow_be, follow_mn]
    have hb := w.be j hj k
    by_cases ek : k = n
    · rw [ek, fu_same]
      by_cases ex : x = some j
      · rw [if_pos ex, mem_addK]
        simp [hn, ex]
      · rw [if_neg ex, ← ek, hb, ek, h2]
        simp [ex]
    · rw [fu_ne ek]
      by_cases ex : x = some j
      · rw [if_pos ex, mem_addK, hb]
        simp [ek]
      · rw [if_neg ex, hb]
  · rw [follow_be]
    split
    · exact nd_addK (w.bn j)
    · exact w.bn j
  · rw [m1] at h
    rw [f5]
    exact w.mek j k h
  · rw [follow_be] at h
    rw [f5]
    split at h
    · rcases mem_addK.mp h with h | h
      · exact w.bek j k h
      · rw [h]
        exact hn
    · exact w.bek j k h
  · rw [f2] at hj
    rw [m1]
    exact w.ne j hj
  · rw [f5] at hk
    rw [follow_mn] at h ⊢
    rw [f2]
    by_cases ek : k = n
    · rw [ek, fu_same] at h
      cases h
    · rw [fu_ne ek] at h ⊢
      exact w.gr k hk j h
  · rw [f5] at hk
    rw [follow_mn] at h ⊢
    rw [f2]
    by_cases ek : k = n
    · rw [ek, fu_same] at h ⊢
      exact ⟨hx j h, rfl⟩
    · rw [fu_ne ek] at h ⊢
      exact w.fo k hk j h
/-- a mount without a group and without a master joins a group -/
theorem We.join {t : Tb} {e : Int → Prop} (w : We t e) {n g : Int} (hn : n ∈ t.kn) (h1 : (t.mn n).gr = none) (h2 : (t.mn n).fo = none) (hg : g ∈ t.gm) : We (t.join n g) (fun j => e j ∧ j ≠ g) := by
  have hmn : ∀ k, (t.join n g).mn k = if k = n then { t.mn n with gr := some g, fo := none } else t.mn k := fun k => rfl
  have hme : ∀ j, (t.join n g).me j = if j = g then addK (t.me g) n else t.me j := fun j => rfl
  refine ⟨w.gb, w.gh, w.nd, w.lt, fun j hj k => ?_, fun j hj k => ?_, fun j => ?_, w.bn, fun j k h => ?_, w.bek, fun j hj h => ?_, fun k hk j h => ?_, fun k hk j h => ?_, w.ms⟩
  · rw [hme, hmn]
    have hj : j ∈ t.gm := hj
    show _ ↔ k ∈ t.kn ∧ _
    have hb := w.me j hj k
    by_cases ek : k = n
    · rw [if_pos ek, ek]
      by_cases ej : j = g
      · rw [if_pos ej, mem_addK]
        simp [hn, ej]
      · rw [if_neg ej, ← ek, hb, ek, h1]
        simp
        intro _ z
        exact ej z.symm
    · rw [if_neg ek]
      by_cases ej : j = g
      · rw [if_pos ej, mem_addK, ← ej, hb]
        simp [ek]
      · rw [if_neg ej, hb]
  · rw [hmn]
    have hj : j ∈ t.gm := hj
    show k ∈ t.be j ↔ k ∈ t.kn ∧ _
    rw [w.be j hj k]
    by_cases ek : k = n
    · rw [if_pos ek, ek, h2]
      simp
    · rw [if_neg ek]
  · rw [hme]
    split
    · exact nd_addK (w.mn g)
    · exact w.mn j
  · rw [hme] at h
    show k ∈ t.kn
    split at h
    · rcases mem_addK.mp h with h | h
      · exact w.mek g k h
      · rw [h]
        exact hn
    · exact w.mek j k h
  · rw [hme]
    by_cases ej : j = g
    · rw [if_pos ej]
      intro z
      have : n ∈ addK (t.me g) n := mem_addK.mpr (.inr rfl)
      rw [z] at this
      cases this
    · rw [if_neg ej]
      exact w.ne j hj fun z => h ⟨z, ej⟩
  · rw [hmn] at h ⊢
    by_cases ek : k = n
    · rw [if_pos ek] at h ⊢
      cases h
      exact ⟨hg, rfl⟩
    · rw [if_neg ek] at h ⊢
      exact w.gr k hk j h
  · rw [hmn] at h ⊢
    by_cases ek : k = n
    · rw [if_pos ek] at h
      cases h
    · rw [if_neg ek] at h ⊢
      exact w.fo k hk j h
/-- a new group, without mounts -/
theorem We.newG {t : Tb} {e : Int → Prop} (w : We t e) {x : Option Int} (hx : ∀ g, x = some g → g ∈ t.gm) : We (t.newG x) (fun j => e j ∨ j = t.cg) := by
  have no : t.cg ∉ t.gm := fun h => Int.lt_irrefl _ (w.lt _ h)
  have ne : ∀ {j}, j ∈ t.gm → j ≠ t.cg := fun h z => no (by rw [← z]; exact h)
  have hin : ∀ {j}, j ∈ (t.newG x).gm → j ∈ t.gm ∨ j = t.cg := fun {j} h => (List.mem_append.mp (show j ∈ t.gm ++ [t.cg] from h)).imp id List.mem_singleton.mp
  have hme : ∀ j, (t.newG x).me j = if j = t.cg then [] else t.me j := fun j => rfl
  have hbe : ∀ j, (t.newG x).be j = if j = t.cg then [] else t.be j := fun j => rfl
  have hms : ∀ j, (t.newG x).ms j = if j = t.cg then x else t.ms j := fun j => rfl
  refine ⟨by show t.gb ++ [t.cg] = t.gm ++ [t.cg]; rw [w.gb], by show t.gh ++ [t.cg] = t.gm ++ [t.cg]; rw [w.gh], List.nodup_append.mpr ⟨w.nd, by simp, fun a ha b hb e => ne ha (by rw [e]; exact List.mem_singleton.mp hb)⟩, fun j hj => ?_, fun j hj k => ?_, fun j hj k => ?_, fun j => ?_, fun j => ?_, fun j k h => ?_, fun j k h => ?_, fun j hj h => ?_, fun k hk j h => ?_, fun k hk j h => ?_, fun j hj k h => ?_⟩
  · show j < t.cg + 1
    rcases hin hj with h | h
    · have := w.lt j h
      omega
    · omega
  · rw [hme]
    rcases hin hj with h | h
    · rw [if_neg (ne h)]
      exact w.me j h k
    · rw [if_pos h, h]
      constructor
      · intro z
        cases z
      · rintro ⟨a, b⟩
        exact absurd (w.gr k a _ b).1 no
  · rw [hbe]
    rcases hin hj with h | h
    · rw [if_neg (ne h)]
      exact w.be j h k
    · rw [if_pos h, h]
      constructor
      · intro z
        cases z
      · rintro ⟨a, _, b⟩
        exact absurd (w.fo k a _ b).1 no
  · rw [hme]
    split
    · simp
    · exact w.mn j
  · rw [hbe]
    split
    · simp
    · exact w.bn j
  · rw [hme] at h
    split at h
    · cases h
    · exact w.mek j k h
  · rw [hbe] at h
    split at h
    · cases h
    · exact w.bek j k h
  · rw [hme]
    rcases hin hj with h' | h'
    · rw [if_neg (ne h')]
      exact w.ne j h' fun z => h (.inl z)
    · exact absurd (.inr h') h
  · obtain ⟨a, b⟩ := w.gr k hk j h
    exact ⟨List.mem_append_left _ a, b⟩
  · obtain ⟨a, b⟩ := w.fo k hk j h
    exact ⟨List.mem_append_left _ a, b⟩
  · rw [hms] at h
    rcases hin hj with h' | h'
    · rw [if_neg (ne h')] at h
      obtain ⟨a, b⟩ := w.ms j h' k h
      exact ⟨List.mem_append_left _ a, b⟩
    · rw [if_pos h'] at h
      have := hx k h
      exact ⟨List.mem_append_left _ this, by rw [h']; exact w.lt k this⟩
end Rp
set_option Elab.async false
set_option linter.all false
set_option autoImplicit false
set_option maxRecDepth 100000
set_option maxHeartbeats 4000000
/-! make, as the plain law says it -/
namespace Rp
open PySem PySem.Spec PyProof.Rows L2 Cm Ob Tx
structure VwEq (kn : List Int) (v u : Vw) : Prop where
  gr : ∀ k ∈ kn, v.gr k = u.gr k
  fo : ∀ k ∈ kn, v.fo k = u.fo k
  gm : v.gm = u.gm
  ms : ∀ g ∈ v.gm, v.ms g = u.ms g
theorem Rv.congr {p : Int → Int} {kn : List Int} {v u u' : Vw} (R : Rv p kn v u) (e : VwEq kn u u') : Rv p kn v u' := ⟨R.inj, fun a ha => by rw [← e.gm]; exact R.gm a ha, fun k hk => by rw [← e.gr k hk]; exact R.gr k hk, R.grm, fun k hk => by rw [← e.fo k hk]; exact R.fo k hk, R.fom, fun l hl => by rw [← e.ms _ (R.gm l hl)]; exact R.ms l hl, R.msm⟩
theorem VwEq.refl (kn : List Int) (v : Vw) : VwEq kn v v := ⟨fun _ _ => rfl, fun _ _ => rfl, rfl, fun _ _ => rfl⟩
theorem del_nil {l : List Int} {n : Int} : del l n = [] ↔ ∀ k ∈ l, k = n := by
  unfold del
  rw [List.filter_eq_nil_iff]
  exact ⟨fun h k hk => Decidable.byContradiction fun z => h k hk (decide_eq_true z), fun h k hk z => (of_decide_eq_true z) (h k hk)⟩
theorem left_iff {t : Tb} (w : Wg t) {n g : Int} (hg : g ∈ t.gm) : (hasR t.kn (fu t.vw.gr n none) g = true) ↔ del (t.me g) n ≠ [] := by
  rw [hasR_iff]
  constructor
  · rintro ⟨k, hk, h⟩ z
    have hne : k ≠ n := fun e => by
      rw [e, fu_same] at h
      cases h
    rw [fu_ne hne] at h
    exact hne (del_nil.mp z k ((w.me g hg k).mpr ⟨hk, h⟩))
  · intro h
    refine Decidable.byContradiction fun z => h (del_nil.mpr fun k hk => Decidable.byContradiction fun ne => z ?_)
    obtain ⟨a, b⟩ := (w.me g hg k).mp hk
    exact ⟨k, a, by rw [fu_ne ne]; exact b⟩
/-- the two ways in which a mount leaves its group -/
structure Left (t t' : Tb) (n g : Int) : Prop where
  w : Wg t'
  r : Rest t t'
  ma : ∀ k, (t'.mn k).ma = (t.mn k).ma
  gn : (t'.mn n).gr = none
  fn : (t'.mn n).fo = none
  sub : ∀ j ∈ t'.gm, j ∈ t.gm
  len : t'.gm.length ≤ t.gm.length
  gr : ∀ k ∈ t.kn, (t'.mn k).gr = fu t.vw.gr n none k
  way : (hasR t.kn (fu t.vw.gr n none) g = true ∧ g ∈ t'.gm ∧ t'.gm = t.gm ∧ t'.ms = t.ms ∧ ∀ k ∈ t.kn, (t'.mn k).fo = (t.mn k).fo) ∨
    (hasR t.kn (fu t.vw.gr n none) g = false ∧ g ∉ t'.gm ∧ t'.gm = del t.gm g ∧ (∀ j ∈ del t.gm g, t'.ms j = if t.ms j = some g then t.ms g else t.ms j) ∧ ∀ k ∈ t.kn, (t'.mn k).fo = if (t.mn k).fo = some g then t.ms g else (t.mn k).fo)
theorem leave_ok {t : Tb} (w : Wg t) {n g : Int} (hn : n ∈ t.kn) (hg : (t.mn n).gr = some g) : Left t (t.leave n) n g := by
  obtain ⟨gm, fn⟩ := w.gr n hn g hg
  have w1 := w.lv1 hg hn
  have eq : t.leave n = if del (t.me g) n = [] then (t.lv1 n g).ends g else t.lv1 n g := by
    unfold Tb.leave
    rw [hg]
  have hmn : ∀ k, (t.lv1 n g).mn k = if k = n then { t.mn n with gr := none } else t.mn k := fun k => rfl
  have hme : (t.lv1 n g).me g = del (t.me g) n := by
    show fu t.me g _ g = _
    rw [fu_same]
  have r1 : Rest t (t.lv1 n g) := by
    have h : Rest t (t.setM n { t.mn n with gr := none }) := Rest.setM rfl
    exact ⟨h.kn, h.kp, h.pc, h.ts, h.tp, h.os, h.ow, h.cm, h.most, h.tr, h.mn⟩
  have m1 : ∀ k, ((t.lv1 n g).mn k).ma = (t.mn k).ma := fun k => by
    rw [hmn]
    by_cases e : k = n
    · rw [if_pos e, e]
    · rw [if_neg e]
  have g1 : ∀ k, ((t.lv1 n g).mn k).gr = fu t.vw.gr n none k := fun k => by
    rw [hmn]
    by_cases e : k = n
    · rw [if_pos e, e, fu_same]
    · rw [if_neg e, fu_ne e]
      rfl
  have f1 : ∀ k, ((t.lv1 n g).mn k).fo = (t.mn k).fo := fun k => by
    rw [hmn]
    by_cases e : k = n
    · rw [if_pos e, e]
    · rw [if_neg e]
  rw [eq]
  by_cases ed : del (t.me g) n = []
  · rw [if_pos ed]
    obtain ⟨e1, e2, e3, e4⟩ := ends_ks (t.lv1 n g) g
    have hb : ∀ k ∈ t.kn, k ∈ (t.lv1 n g).be g ↔ ((t.lv1 n g).mn k).fo = some g := fun k hk => by
      rw [w1.be g gm k]
      exact ⟨fun h => h.2.2, fun h => ⟨hk, (w1.fo k hk g h).2, h⟩⟩
    have ff : ∀ k ∈ t.kn, (((t.lv1 n g).ends g).mn k).fo = if (t.mn k).fo = some g then t.ms g else (t.mn k).fo := fun k hk => by
      rw [ends_mn]
      by_cases ek : k ∈ (t.lv1 n g).be g
      · rw [if_pos ek, if_pos (by rw [← f1]; exact (hb k hk).mp ek)]
        rfl
      · rw [if_neg ek, f1, if_neg fun z => ek ((hb k hk).mpr (by rw [f1]; exact z))]
    have gg : ∀ k ∈ t.kn, (((t.lv1 n g).ends g).mn k).gr = fu t.vw.gr n none k := fun k hk => by
      rw [ends_mn]
      by_cases ek : k ∈ (t.lv1 n g).be g
      · rw [if_pos ek, ← g1]
        exact ((w1.be g gm k).mp ek).2.1.symm
      · rw [if_neg ek]
        exact g1 k
    refine ⟨w1.ends gm (by rw [hme]; exact ed), r1.trans (ends_rest _ g), fun k => ?_, ?_, ?_, fun j hj => ?_, ?_, gg, .inr ⟨?_, ?_, e2, fun j hj => ?_, ff⟩⟩
    · rw [ends_mn]
      split
      · exact m1 k
      · exact m1 k
    · rw [gg n hn, fu_same]
    · rw [ff n hn, fn]
      rfl
    · rw [e2] at hj
      exact (mem_del.mp hj).1
    · rw [e2]
      exact del_len _ _
    · have := mt (left_iff w gm).mp (fun z => z ed)
      simpa using this
    · rw [e2]
      exact fun z => (mem_del.mp z).2 rfl
    · rw [ends_ms]
      have hj' : j ∈ del (t.lv1 n g).gm g := hj
      by_cases ec : t.ms j = some g
      · rw [if_pos ec, if_pos ⟨hj', ec⟩]
        rfl
      · rw [if_neg ec, if_neg fun z => ec z.2]
        rfl
  · rw [if_neg ed]
    refine ⟨w1.weak fun j hj _ => ?_, r1, m1, ?_, ?_, fun j hj => hj, Nat.le_refl _, fun k _ => g1 k, .inl ⟨(left_iff w gm).mpr ed, gm, rfl, rfl, fun k _ => f1 k⟩⟩
    · by_cases ej : j = g
      · rw [ej, hme]
        exact ed
      · exact w1.ne j hj ej
    · rw [g1, fu_same]
    · rw [f1]
      exact fn
def mkM (kind : Str) (m : Bool) : Bool := if kind = "sharing" then false else if kind = "following" then m else decide (kind = "unbindable")
structure Made (t t' : Tb) (n : Int) (kind : Str) : Prop where
  w : Wg t'
  r : Rest t t'
  v : VwEq t.kn (t.vw.make t.kn n kind t.cg) t'.vw
  ma : ∀ k, (t'.mn k).ma = if k = n then mkM kind (t.mn n).ma else (t.mn k).ma
  len : t'.gm.length ≤ t.gm.length + 1
theorem made_S {t : Tb} (w : Wg t) {n : Int} (hn : n ∈ t.kn) : Made t (t.mkS n) n "sharing" := by
  have ev : t.vw.make t.kn n "sharing" t.cg = t.vw.mkS n t.cg := by
    unfold Vw.make
    rw [if_pos rfl]
  have wM := w.mark n false
  have rM : Rest t (t.setM n { t.mn n with ma := false }) := Rest.setM rfl
  have hma : ∀ k, ((t.setM n { t.mn n with ma := false }).mn k).ma = if k = n then mkM "sharing" (t.mn n).ma else (t.mn k).ma := fun k => by
    show (fu t.mn n _ k).ma = _
    by_cases e : k = n
    · rw [e, fu_same, if_pos rfl]
      rfl
    · rw [fu_ne e, if_neg e]
  have hmn : ∀ k, ((t.setM n { t.mn n with ma := false }).mn k).gr = (t.mn k).gr ∧ ((t.setM n { t.mn n with ma := false }).mn k).fo = (t.mn k).fo := fun k => by
    show (fu t.mn n _ k).gr = _ ∧ (fu t.mn n _ k).fo = _
    by_cases e : k = n
    · rw [e, fu_same]
      exact ⟨rfl, rfl⟩
    · rw [fu_ne e]
      exact ⟨rfl, rfl⟩
  unfold Tb.mkS
  cases e : (t.mn n).gr with
  | some g =>
    refine ⟨wM, rM, ?_, hma, Nat.le_succ _⟩
    rw [ev]
    unfold Vw.mkS
    rw [show t.vw.gr n = some g from e]
    exact ⟨fun k _ => (hmn k).1.symm, fun k _ => (hmn k).2.symm, rfl, fun _ _ => rfl⟩
  | none =>
    dsimp only
    generalize ht1 : t.setM n { t.mn n with ma := false } = t1 at wM rM hma hmn
    have hn1 : n ∈ t1.kn := by
      rw [rM.kn]
      exact hn
    have w2 := wM.unf n hn1
    obtain ⟨u1, u2, u3, u4, u5, u6, u7⟩ := unf_kn t1 n
    have r2 := rM.trans (unf_rest t1 n)
    have egm : t1.gm = t.gm := by rw [← ht1]; rfl
    have ems : t1.ms = t.ms := by rw [← ht1]; rfl
    have ecg : (t1.unf n).cg = t.cg := by
      rw [u5, ← ht1]
      rfl
    have w3 := w2.newG (x := (t.mn n).fo) (fun g hg => by
      rw [u2, egm]
      exact (w.fo n hn g hg).1)
    have hmn2 : ∀ k, (t1.unf n).mn k = if k = n then { t1.mn n with fo := none } else t1.mn k := unf_mn t1 n
    have hn2 : n ∈ ((t1.unf n).newG (t.mn n).fo).kn := by
      show n ∈ (t1.unf n).kn
      rw [u1]
      exact hn1
    have g0 : (((t1.unf n).newG (t.mn n).fo).mn n).gr = none := by
      show ((t1.unf n).mn n).gr = none
      rw [hmn2, if_pos rfl]
      exact (hmn n).1.trans e
    have f0 : (((t1.unf n).newG (t.mn n).fo).mn n).fo = none := by
      show ((t1.unf n).mn n).fo = none
      rw [hmn2, if_pos rfl]
    have gin : t.cg ∈ ((t1.unf n).newG (t.mn n).fo).gm := by
      show t.cg ∈ (t1.unf n).gm ++ [(t1.unf n).cg]
      rw [ecg]
      simp
    have w4 := w3.join hn2 g0 f0 gin
    have hk : ∀ k, (((t1.unf n).newG (t.mn n).fo).join n t.cg).mn k = if k = n then { t1.mn n with gr := some t.cg, fo := none } else t1.mn k := fun k => by
      show fu ((t1.unf n).mn) n { (t1.unf n).mn n with gr := some t.cg, fo := none } k = _
      by_cases ek : k = n
      · rw [ek, fu_same, if_pos rfl, hmn2, if_pos rfl]
      · rw [fu_ne ek, if_neg ek, hmn2, if_neg ek]
    refine ⟨w4.weak fun j hj _ => w4.ne j hj fun z => ?_, ?_, ?_, fun k => ?_, ?_⟩
    · rcases z with ⟨z | z, z2⟩
      · exact z
      · rw [ecg] at z
        exact z2 z
    · refine ⟨r2.kn, r2.kp, r2.pc, r2.ts, r2.tp, r2.os, r2.ow, r2.cm, r2.most, r2.tr, fun k => ?_⟩
      rw [hk]
      by_cases ek : k = n
      · rw [if_pos ek, ek]
        dsimp only
        rw [rM.mn n]
      · rw [if_neg ek]
        exact rM.mn k
    · rw [ev]
      unfold Vw.mkS
      rw [show t.vw.gr n = none from e]
      refine ⟨fun k _ => ?_, fun k _ => ?_, ?_, fun g hg => ?_⟩
      · show fu t.vw.gr n (some t.cg) k = ((((t1.unf n).newG (t.mn n).fo).join n t.cg).mn k).gr
        rw [hk]
        by_cases ek : k = n
        · rw [ek, fu_same, if_pos rfl]
        · rw [fu_ne ek, if_neg ek]
          exact (hmn k).1.symm
      · show fu t.vw.fo n none k = ((((t1.unf n).newG (t.mn n).fo).join n t.cg).mn k).fo
        rw [hk]
        by_cases ek : k = n
        · rw [ek, fu_same, if_pos rfl]
        · rw [fu_ne ek, if_neg ek]
          exact (hmn k).2.symm
      · show t.gm ++ [t.cg] = (t1.unf n).gm ++ [(t1.unf n).cg]
        rw [ecg, u2, egm]
      · show fu t.ms t.cg (t.mn n).fo g = fu (t1.unf n).ms (t1.unf n).cg (t.mn n).fo g
        rw [ecg, u7, ems]
    · rw [hk]
      rw [← hma k]
      by_cases ek : k = n
      · rw [if_pos ek, ek]
      · rw [if_neg ek]
    · show ((t1.unf n).gm ++ [(t1.unf n).cg]).length ≤ _
      rw [u2, egm, List.length_append]
      exact Nat.le_refl _
theorem made_F {t : Tb} (w : Wg t) {n : Int} (hn : n ∈ t.kn) : Made t (t.mkF n) n "following" := by
  have ev : t.vw.make t.kn n "following" t.cg = t.vw.mkF t.kn n := by
    unfold Vw.make
    rw [if_neg (by decide), if_pos rfl]
  have em : ∀ m, mkM "following" m = m := fun m => rfl
  unfold Tb.mkF
  cases e : (t.mn n).gr with
  | none =>
    refine ⟨w, Rest.refl t, ?_, fun k => ?_, Nat.le_succ _⟩
    · rw [ev]
      unfold Vw.mkF
      rw [show t.vw.gr n = none from e]
      exact VwEq.refl _ _
    · rw [em]
      by_cases ek : k = n
      · rw [if_pos ek, ek]
      · rw [if_neg ek]
  | some g =>
    dsimp only
    have L := leave_ok w hn e
    obtain ⟨gm, fn⟩ := w.gr n hn g e
    generalize t.leave n = t1 at L
    have hn1 : n ∈ t1.kn := by
      rw [L.r.kn]
      exact hn
    have hx : ∀ j, (if g ∈ t1.gm then some g else t.ms g) = some j → j ∈ t1.gm := fun j hj => by
      rcases L.way with ⟨_, a, _⟩ | ⟨_, a, b, _⟩
      · rw [if_pos a] at hj
        cases hj
        exact a
      · rw [if_neg a] at hj
        rw [b]
        obtain ⟨c1, c2⟩ := w.ms g gm j hj
        exact mem_del.mpr ⟨c1, Int.ne_of_lt c2⟩
    have wF := L.w.follow hn1 L.gn L.fn hx
    obtain ⟨f1, f2, f3, f4, f5⟩ := follow_ms t1 n (if g ∈ t1.gm then some g else t.ms g)
    refine ⟨wF, L.r.trans (follow_rest t1 n _), ?_, fun k => ?_, by rw [f2]; exact Nat.le_succ_of_le L.len⟩
    · rw [ev]
      unfold Vw.mkF
      rw [show t.vw.gr n = some g from e]
      dsimp only
      unfold Vw.end1
      dsimp only
      rcases L.way with ⟨a, b, c1, c2, c3⟩ | ⟨a, b, c1, c2, c3⟩
      · rw [if_pos a, if_pos b]
        refine ⟨fun k hk => ?_, fun k hk => ?_, ?_, fun j hj => ?_⟩
        · show fu t.vw.gr n none k = ((t1.follow n (some g)).mn k).gr
          rw [follow_mn]
          by_cases ek : k = n
          · rw [ek, fu_same, fu_same]
          · rw [fu_ne (f := t1.mn) ek]
            exact (L.gr k hk).symm
        · show fu t.vw.fo n (some g) k = ((t1.follow n (some g)).mn k).fo
          rw [follow_mn]
          by_cases ek : k = n
          · rw [ek, fu_same, fu_same]
          · rw [fu_ne ek, fu_ne ek]
            exact (c3 k hk).symm
        · exact c1.symm
        · show t.ms j = t1.ms j
          rw [c2]
      · rw [if_neg (by rw [a]; exact Bool.false_ne_true), if_neg b]
        unfold Vw.ended
        refine ⟨fun k hk => ?_, fun k hk => ?_, ?_, fun j hj => ?_⟩
        · show fu t.vw.gr n none k = ((t1.follow n (t.ms g)).mn k).gr
          rw [follow_mn]
          by_cases ek : k = n
          · rw [ek, fu_same, fu_same]
          · rw [fu_ne (f := t1.mn) ek]
            exact (L.gr k hk).symm
        · show (if fu t.vw.fo n (some g) k = some g then t.ms g else fu t.vw.fo n (some g) k) = ((t1.follow n (t.ms g)).mn k).fo
          rw [follow_mn]
          by_cases ek : k = n
          · rw [ek, fu_same, fu_same, if_pos rfl]
          · rw [fu_ne ek, fu_ne ek]
            exact (c3 k hk).symm
        · show del t.gm g = (t1.follow n (t.ms g)).gm
          rw [(follow_ms t1 n (t.ms g)).2.1]
          exact c1.symm
        · show (if t.ms j = some g then t.ms g else t.ms j) = (t1.follow n (t.ms g)).ms j
          rw [(follow_ms t1 n (t.ms g)).1]
          exact (c2 j hj).symm
    · rw [em, follow_mn]
      by_cases ek : k = n
      · rw [if_pos ek, ek, fu_same]
        exact L.ma n
      · rw [if_neg ek, fu_ne ek]
        exact L.ma k
theorem made_A {t : Tb} (w : Wg t) {n : Int} (hn : n ∈ t.kn) {kind : Str} (e1 : kind ≠ "sharing") (e2 : kind ≠ "following") : Made t (t.mkA n (decide (kind = "unbindable"))) n kind := by
  have ev : t.vw.make t.kn n kind t.cg = t.vw.mkA t.kn n := by
    unfold Vw.make
    rw [if_neg e1, if_neg e2]
  have em : ∀ m, mkM kind m = decide (kind = "unbindable") := fun m => by
    unfold mkM
    rw [if_neg e1, if_neg e2]
  have fin : ∀ t1 : Tb, Wg t1 → Rest t t1 → (∀ k, (t1.mn k).ma = (t.mn k).ma) → t1.gm.length ≤ t.gm.length → VwEq t.kn (t.vw.mkA t.kn n) t1.vw → Made t (t1.setM n { t1.mn n with ma := decide (kind = "unbindable") }) n kind := fun t1 w1 r1 m1 l1 v1 => by
    have hk : ∀ k, ((t1.setM n { t1.mn n with ma := decide (kind = "unbindable") }).mn k).gr = (t1.mn k).gr ∧ ((t1.setM n { t1.mn n with ma := decide (kind = "unbindable") }).mn k).fo = (t1.mn k).fo := fun k => by
      show (fu t1.mn n _ k).gr = _ ∧ (fu t1.mn n _ k).fo = _
      by_cases e : k = n
      · rw [e, fu_same]
        exact ⟨rfl, rfl⟩
      · rw [fu_ne e]
        exact ⟨rfl, rfl⟩
    refine ⟨w1.mark n _, r1.trans (Rest.setM rfl), ?_, fun k => ?_, Nat.le_succ_of_le l1⟩
    · rw [ev]
      exact ⟨fun k hk' => (v1.gr k hk').trans (hk k).1.symm, fun k hk' => (v1.fo k hk').trans (hk k).2.symm, v1.gm, v1.ms⟩
    · rw [em]
      show (fu t1.mn n _ k).ma = _
      by_cases e : k = n
      · rw [e, fu_same, if_pos rfl]
      · rw [fu_ne e, if_neg e]
        exact m1 k
  unfold Tb.mkA
  dsimp only
  cases e : (t.mn n).gr with
  | none =>
    have hl : (t.unf n).leave n = t.unf n := leave_id (by rw [unf_gr]; exact e)
    rw [hl]
    obtain ⟨u1, u2, u3, u4, u5, u6, u7⟩ := unf_kn t n
    refine fin _ (w.unf n hn) (unf_rest t n) (fun k => ?_) (by rw [u2]; exact Nat.le_refl _) ?_
    · rw [unf_mn]
      by_cases ek : k = n
      · rw [if_pos ek, ek]
      · rw [if_neg ek]
    · unfold Vw.mkA
      rw [show t.vw.gr n = none from e]
      refine ⟨fun k hk => ?_, fun k hk => ?_, u2.symm, fun j _ => by show t.ms j = (t.unf n).ms j; rw [u7]⟩
      · show fu t.vw.gr n none k = ((t.unf n).mn k).gr
        rw [unf_mn]
        by_cases ek : k = n
        · rw [if_pos ek, ek, fu_same]
          exact e.symm
        · rw [if_neg ek, fu_ne ek]
          rfl
      · show fu t.vw.fo n none k = ((t.unf n).mn k).fo
        rw [unf_mn]
        by_cases ek : k = n
        · rw [if_pos ek, ek, fu_same]
        · rw [if_neg ek, fu_ne ek]
          rfl
  | some g =>
    obtain ⟨gm, fn⟩ := w.gr n hn g e
    rw [unf_id fn]
    have L := leave_ok w hn e
    generalize t.leave n = t1 at L
    refine fin _ L.w L.r L.ma L.len ?_
    unfold Vw.mkA
    rw [show t.vw.gr n = some g from e]
    unfold Vw.end1
    dsimp only
    have hfo : ∀ k, fu t.vw.fo n none k = (t.mn k).fo := fun k => by
      by_cases ek : k = n
      · rw [ek, fu_same]
        exact fn.symm
      · rw [fu_ne ek]
        rfl
    rcases L.way with ⟨a, b, c1, c2, c3⟩ | ⟨a, b, c1, c2, c3⟩
    · rw [if_pos a]
      exact ⟨fun k hk => (L.gr k hk).symm, fun k hk => (hfo k).trans (c3 k hk).symm, c1.symm, fun j hj => by show t.ms j = t1.ms j; rw [c2]⟩
    · rw [if_neg (by rw [a]; exact Bool.false_ne_true)]
      unfold Vw.ended
      refine ⟨fun k hk => (L.gr k hk).symm, fun k hk => ?_, c1.symm, fun j hj => (c2 j hj).symm⟩
      show (if fu t.vw.fo n none k = some g then t.ms g else fu t.vw.fo n none k) = (t1.mn k).fo
      rw [hfo]
      exact (c3 k hk).symm
theorem made {t : Tb} (w : Wg t) {n : Int} (hn : n ∈ t.kn) (kind : Str) : Made t (t.make n kind) n kind := by
  unfold Tb.make
  by_cases e1 : kind = "sharing"
  · rw [if_pos e1, e1]
    exact made_S w hn
  · rw [if_neg e1]
    by_cases e2 : kind = "following"
    · rw [if_pos e2, e2]
      exact made_F w hn
    · rw [if_neg e2]
      exact made_A w hn e1 e2
end Rp
set_option autoImplicit true
set_option Elab.async false
set_option linter.all false
set_option maxRecDepth 100000
set_option maxHeartbeats 8000000
namespace Tx
open PySem PySem.Spec PyProof.Rows L2 Cm Ob
/-- o.f as a target -/
def gFld (K : PySem.W.Frag) (ta : TE) (f : Str) : TG := fun y σ H Q => ta σ H fun x H2 => ∃ a C dx fs, x = .ref a ∧ H2 a = some (.ins C dx fs) ∧ Cls K C ∧ NoAttr K C f ∧ fs.length < 1000 ∧ Q σ (upd H2 a (.ins C dx (putF f y fs)))
theorem pg_fld {X : Cx} {o : Expr} {ta : TE} {f : Str} {pos : Pos} (ho : PE X o ta) : PG X (.Attribute o f pos) (gFld X.K ta f) := by
  constructor
  intro pins s σ H v u Q I r h
  rw [assign_Attribute]
  refine wpAny_bind (wpAny_holding (thn (ho.run pins s σ H _ I h) fun ov s1 ⟨x, H1, I1, rx, a, C, dx, fs, ex, ea, c, n, l, q⟩ => ?_))
  subst ex
  cases (show ov = Value.ref a from rx)
  refine wpAny_bind (wpAny_standAt (wpAny_bind (wpAny_holding (setattr_ok I1 ea c n l r fun s3 I3 => ?_))))
  exact wpAny_release ⟨σ, _, I3, q⟩
/-! ### Mount.copied -/
abbrev sMtC : Stmt := inClass sMountC 1
theorem scMtC : FnScope ["self", "other"] ["self"] (defScope sMtC) := ⟨rfl, rfl, rfl, by decide +kernel, rfl, by decide +kernel, by decide +kernel⟩
def stMC (i : Nat) : Stmt := (defBody sMtC).getD i (.Pass ⟨0, 0, 0, 0⟩)
theorem bodyMtC : defBody sMtC = [stMC 0, stMC 1, stMC 2, stMC 3, stMC 4] := rfl
def spMtC (CM : Addr) : Sp := fun vs H Q _ => ∃ m dm n sp tr rt pa pl gr fo ma lo st, vs = [.ref m] ∧ H m = some (.ins CM dm (mtF n sp tr rt pa pl gr fo ma lo st)) ∧ ∀ H' m' dm', Same H H' → H m' = none → H' m' = some (.ins CM dm' (mtF n sp tr rt pa pl gr fo ma lo st)) → Q (.ref m') H'
/-- the copy so far -/
def GM (H0 : Hp) (CM m dm : Addr) (FS fs : List (Str × V)) : L2.St → Hp → Prop := fun σ H => ∃ m' dm', σ = [some (.ref m), some (.ref m')] ∧ H m' = some (.ins CM dm' fs) ∧ H m = some (.ins CM dm FS) ∧ m ≠ m' ∧ Same H0 H ∧ H0 m' = none
section
variable {P : Program} {w : World} {K : PySem.W.Frag} {mg : Str → Option Value} {base : Heap} {CM CT CL CW : Addr} {X : Cx} {H0 : Hp} {m dm : Addr} {FS fs : List (Str × V)} {f g : Str} {v1 v2 : V} {p1 p2 p3 p4 p5 p6 q1 q2 q3 q4 pos : Pos} {k1 k2 : Nat}
theorem ho_pair (c : Cn X.K CM mtN) (hs : X.calm = true) (h0a : PE X (.Name "self" p1) (tVar 0)) (h0b : PE X (.Name "self" p2) (tVar 0)) (h1a : PE X (.Name "other" q1) (tVar 1)) (h1b : PE X (.Name "other" q2) (tVar 1)) (hf : f ∈ mtN) (hg : g ∈ mtN) (l1 : FS.lookup f = some v1) (l2 : FS.lookup g = some v2) (hl : fs.length < 900) (hl2 : (putF f v1 fs).length < 900)
    (b1 : attributeBase (.Name "self" p1) f X.env (eval (.Name "self" p1) X.env) = eval (.Name "self" p1) X.env) (b2 : attributeBase (.Name "self" p2) g X.env (eval (.Name "self" p2) X.env) = eval (.Name "self" p2) X.env)
    (sw1 : swapsWithSole [.Tuple [.Attribute (.Name "other" q1) f q3, .Attribute (.Name "other" q2) g q4] k1 p6] (.Tuple [.Attribute (.Name "self" p1) f p3, .Attribute (.Name "self" p2) g p4] k2 p5) pos.line X.env = pure false)
    (sw2 : swappedStores [.Tuple [.Attribute (.Name "other" q1) f q3, .Attribute (.Name "other" q2) g q4] k1 p6] (.Tuple [.Attribute (.Name "self" p1) f p3, .Attribute (.Name "self" p2) g p4] k2 p5) X.env = pure none) :
    Ho X (.Assign [.Tuple [.Attribute (.Name "other" q1) f q3, .Attribute (.Name "other" q2) g q4] k1 p6] (.Tuple [.Attribute (.Name "self" p1) f p3, .Attribute (.Name "self" p2) g p4] k2 p5) pos) (GM H0 CM m dm FS fs) (GM H0 CM m dm FS (putF g v2 (putF f v1 fs))) := by
  refine ⟨_, ps_asg (pe_tup (pa_cons (pe_fld h0a b1) (pa_cons (pe_fld h0b b2) pa_nil))) (pg_tup hs (pgs_cons (pg_fld h1a) (pgs_cons (pg_fld h1b) pgs_nil))) sw1 sw2, ?_⟩
  rintro D σ H ⟨m', dm', rfl, hm', hm, ne, sm, n0⟩ q
  refine ⟨_, rfl, m, CM, dm, FS, v1, rfl, hm, c.cl, c.no _ hf, l1, _, rfl, m, CM, dm, FS, v2, rfl, hm, c.cl, c.no _ hg, l2, by show 2 ≤ sizeLine; decide, fun p hp => ?_⟩
  refine ⟨p, _, rfl, SqT.of upd_same, rfl, _, _, rfl, _, rfl, m', CM, dm', fs, rfl, (by rw [upd_ne (ne_of_none hm' hp)]; exact hm'), c.cl, c.no _ hf, by omega, _, _, rfl, _, rfl, m', CM, dm', _, rfl, upd_same, c.cl, c.no _ hg, by omega, rfl, q _ _ ⟨m', dm', rfl, upd_same, ?_, ne, ?_, n0⟩⟩
  · rw [upd_ne ne, upd_ne ne, upd_ne (ne_of_none hm hp)]
    exact hm
  · exact same_mut n0 (same_mut n0 (sm.trans (same_new hp)))
theorem ok_mtC {f fI : Addr} {fd fdI : FuncData} {k : Nat} (F : Fun K "copied" "Mount.copied" sMtC f fd) (c : Cn K CM mtN) (MK : Mk K CM fI) (gM : mg "Mount" = some (.ref CM)) (FI : FnOk P w K mg base CX0 1 fI fdI ["self", "number", "space", "tree", "root"] (spMtI CM)) (bI : Binds K fdI ["self", "number", "space", "tree", "root"] []) : FnOk P w K mg base CX0 (k + 3) f fd ["self"] (spMtC CM) := by
  refine F.ok scMtC (fun vs H Q E h => ?_) (fun cdv A outer s H vs Q E hr h => ?_)
  · obtain ⟨m, dm, n, sp, tr, rt, pa, pl, gr, fo, ma, lo, st, rfl, _⟩ := h
    rfl
  · obtain ⟨m, dm, n, sp, tr, rt, pa, pl, gr, fo, ma, lo, st, rfl, hm, q⟩ := h
    have hr2 : Room 2 (cxOf CX0 P w K mg base ["self", "other"] "Mount.copied" (defScope sMtC) f cdv A outer s H E).nox.A := hr.mono (by omega)
    have N : ∀ f ∈ mtN, NoAttr K CM f := c.no
    have h0 : Ho (cxOf CX0 P w K mg base ["self", "other"] "Mount.copied" (defScope sMtC) f cdv A outer s H E).nox (stMC 0) (fun σ H' => σ = [some (.ref m), none] ∧ H' = H) (GM H CM m dm (mtF n sp tr rt pa pl gr fo ma lo st) (mtF n sp tr rt .non .non .non .non (.bl false) (.bl false) .non)) := by
      refine ⟨_, ps_set (i := 1) scMtC.nd rfl (.inl rfl) (pe_make MK FI hr2 (by rfl) gM bI .nil pass0 (pa_cons (pe_fld (pv 0) rfl) (pa_cons (pe_fld (pv 0) rfl) (pa_cons (pe_fld (pv 0) rfl) (pa_cons (pe_fld (pv 0) rfl) pa_nil))))), ?_⟩
      rintro D σ H' ⟨rfl, rfl⟩ q1
      refine ⟨_, rfl, m, CM, dm, _, n, rfl, hm, c.cl, N _ (by decide +kernel), rfl, _, rfl, m, CM, dm, _, sp, rfl, hm, c.cl, N _ (by decide +kernel), rfl, _, rfl, m, CM, dm, _, tr, rfl, hm, c.cl, N _ (by decide +kernel), rfl, _, rfl, m, CM, dm, _, rt, rfl, hm, c.cl, N _ (by decide +kernel), rfl, fun m' dm' hm' hd' ne => ?_⟩
      refine ⟨m', dm', n, sp, tr, rt, rfl, upd_same, fun H2 b2 h2 => ⟨rfl, q1 _ _ ⟨m', dm', rfl, h2, ?_, ne_of_none hm hm', ?_, hm'⟩⟩⟩
      · refine b2 m _ (ne_of_none hm hm') ?_
        rw [upd_ne (ne_of_none hm hm'), upd_ne (ne_of_none hm hd')]
        exact hm
      · intro e o h
        refine b2 e o (ne_of_none h hm') ?_
        rw [upd_ne (ne_of_none h hm'), upd_ne (ne_of_none h hd')]
        exact h
    have h3 : HoR (cxOf CX0 P w K mg base ["self", "other"] "Mount.copied" (defScope sMtC) f cdv A outer s H E).nox [stMC 3, stMC 4] (GM H CM m dm (mtF n sp tr rt pa pl gr fo ma lo st) (mtF n sp tr rt pa pl gr fo (.bl false) (.bl false) .non)) (fun v H' => Q v H') := by
      refine ⟨_, pss_cons (ps_asg (pe_tup (pa_cons (pe_fld (pv 0) rfl) (pa_cons (pe_fld (pv 0) rfl) (pa_cons (pe_fld (pv 0) rfl) pa_nil)))) (pg_tup rfl (pgs_cons (pg_fld (pv 1)) (pgs_cons (pg_fld (pv 1)) (pgs_cons (pg_fld (pv 1)) pgs_nil))))) (pss_one (ps_ret (pv 1))), ?_⟩
      rintro D σ H1 ⟨m', dm', rfl, hm', hm1, ne, sm, n0⟩ q1
      refine ⟨_, rfl, m, CM, dm, _, ma, rfl, hm1, c.cl, N _ (by decide +kernel), rfl, _, rfl, m, CM, dm, _, lo, rfl, hm1, c.cl, N _ (by decide +kernel), rfl, _, rfl, m, CM, dm, _, st, rfl, hm1, c.cl, N _ (by decide +kernel), rfl, by show 3 ≤ sizeLine; decide, fun p hp => ?_⟩
      refine ⟨p, _, rfl, SqT.of upd_same, rfl, _, _, rfl, _, rfl, m', CM, dm', _, rfl, (by rw [upd_ne (ne_of_none hm' hp)]; exact hm'), c.cl, N _ (by decide +kernel), by show 11 < 1000; decide, _, _, rfl, _, rfl, m', CM, dm', _, rfl, upd_same, c.cl, N _ (by decide +kernel), by show 11 < 1000; decide, _, _, rfl, _, rfl, m', CM, dm', _, rfl, upd_same, c.cl, N _ (by decide +kernel), by show 11 < 1000; decide, rfl, _, rfl, q1 _ _ (q _ m' dm' ?_ n0 upd_same)⟩
      exact same_mut n0 (same_mut n0 (same_mut n0 (sm.trans (same_new hp))))
    rw [bodyMtC]
    obtain ⟨t, ht, hq⟩ := HoR.cons h0 (HoR.cons (ho_pair (f := "parent") (g := "place") (v1 := pa) (v2 := pl) c rfl (pv 0) (pv 0) (pv 1) (pv 1) (by decide +kernel) (by decide +kernel) rfl rfl (by show 11 < 900; decide) (by show 11 < 900; decide) rfl rfl rfl rfl)
      (HoR.cons (ho_pair (f := "group") (g := "follows") (v1 := gr) (v2 := fo) c rfl (pv 0) (pv 0) (pv 1) (pv 1) (by decide +kernel) (by decide +kernel) rfl rfl (by show 11 < 900; decide) (by show 11 < 900; decide) rfl rfl rfl rfl) h3))
    exact ⟨t, ht, hq _ _ _ ⟨rfl, rfl⟩ fun v H' z => z⟩
end
end Tx
set_option autoImplicit true
set_option Elab.async false
set_option linter.all false
set_option maxRecDepth 100000
set_option maxHeartbeats 8000000
namespace Tx
open PySem PySem.Spec PyProof.Rows L2 Cm Ob
/-- a dict comprehension over a walk -/
theorem dc_it {J : It} {n : Nat} {G : Hp → Prop} {Y : Nat → Hp → V → Hp → Prop} (wk : Walk J n G Y) {g : TG} {tt : TT} {tk tv : TE} {vs : List Nat} {σ : L2.St} {H1 : Hp} {D : Addr} {Qd : Hp → Prop} (Pv : Nat → Hp → Prop) (h0 : Pv 0 (upd H1 D (.dK []))) (hG : ∀ i H, i ≤ n → Pv i H → G H)
    (hs : ∀ i x H H', i < n → Pv i H → Y i H x H' → g x (wipe σ vs) H' fun σ2 H2 => wipe σ2 vs = wipe σ vs ∧ tt σ2 H2 fun b H3 =>
      if b = true then tk σ2 H3 fun y H4 => tv σ2 H4 fun z H5 => ∃ kvs k, y = kV k ∧ H5 D = some (.dK kvs) ∧ kvs.length < sizeLine ∧ Pv (i + 1) (upd H5 D (.dK (putK kvs k z))) else Pv (i + 1) H3) (hd : ∀ H, Pv n H → Qd H) :
    ∃ W : Nat → Nat → Hp → Prop, (∃ m, W 0 m (upd H1 D (.dK []))) ∧ ∀ i m H, W i m H →
      (J.stop i H ∧ Qd H) ∨ (J.go i H ∧ ∃ Nx : Hp → Prop, (∀ H', Nx H' → ∃ m', m' < m ∧ W (i + 1) m' H') ∧ ∀ x H', J.yld i H x H' → g x (wipe σ vs) H' fun σ2 H2 => wipe σ2 vs = wipe σ vs ∧ tt σ2 H2 fun b H3 =>
        if b = true then tk σ2 H3 fun y H4 => tv σ2 H4 fun z H5 => ∃ kvs k, y = kV k ∧ H5 D = some (.dK kvs) ∧ kvs.length < sizeLine ∧ Nx (upd H5 D (.dK (putK kvs k z))) else Nx H3) := by
  refine ⟨fun i m H => m = n - i ∧ i ≤ n ∧ Pv i H, ⟨n, by simp, Nat.zero_le _, h0⟩, ?_⟩
  rintro i m H ⟨em, hi, p⟩
  by_cases hlt : i < n
  · exact .inr ⟨wk.goes i H hlt (hG i H hi p), Pv (i + 1), fun H' p' => ⟨n - (i + 1), by omega, rfl, hlt, p'⟩, fun x H' y => hs i x H H' hlt p (wk.yields i H x H' hlt (hG i H hi p) y)⟩
  · have e : i = n := by omega
    subst e
    exact .inl ⟨wk.stops H (hG _ H hi p), hd H p⟩
abbrev sWoI : Stmt := inClass sWorldC 0
abbrev nWo : List Str := ["self", "trees", "first", "most", "top", "name"]
theorem scWoI : FnScope nWo ["self", "trees", "first", "most"] (defScope sWoI) := ⟨rfl, rfl, rfl, by decide +kernel, rfl, by decide +kernel, by decide +kernel⟩
def stW (i : Nat) : Stmt := (defBody sWoI).getD i (.Pass ⟨0, 0, 0, 0⟩)
theorem bodyWoI : defBody sWoI = [stW 0, stW 1, stW 2, stW 3, stW 4, stW 5, stW 6, stW 7, stW 8, stW 9] := rfl
def woN : List Str := ["first", "deeds", "sessions", "table"]
def woF (fi de se ta : V) : List (Str × V) := [("first", fi), ("deeds", de), ("sessions", se), ("table", ta)]
/-- what World.__init__ calls -/
structure WoC (P : Program) (w : World) (K : PySem.W.Frag) (mg : Str → Option Value) (base : Heap) (CW CT CM CR : Addr) : Prop where
  cW : Cn K CW woN
  cT : Cn K CT tbN
  cM : Cn K CM mtN
  trees : Cl P w K mg base CX0 2 "are_trees" ["thing"] (spTrees K CR)
  name : Cl P w K mg base CX0 1 "is_name" ["thing"] (spName K)
  whole : Cl P w K mg base CX0 1 "is_whole" ["thing", "low", "high"] (spWhole K)
  mkT : ∃ f fd, Mk K CT f ∧ FnOk P w K mg base CX0 1 f fd ["self", "trees", "most"] (spTbI CT) ∧ Binds K fd ["self", "trees", "most"] []
  gT : mg "Table" = some (.ref CT)
  newM : ∃ f fd, Meth K CT "new_mount" f ∧ FnOk P w K mg base CX0 3 f fd ["self", "space", "tree", "root"] (spNewM CT CM) ∧ Binds K fd ["self", "space", "tree", "root"] []
  next : ∃ f fd, Meth K CT "next" f ∧ FnOk P w K mg base CX0 1 f fd ["self", "what"] (spNext CT) ∧ Binds K fd ["self", "what"] []
abbrev XWo (P : Program) (w : World) (K : PySem.W.Frag) (mg : Str → Option Value) (base : Heap) (f : Addr) (cdv : Value) (A : Around) (outer : List Env) (s : Shared) (H0 : Hp) (E : XK) : Cx := (cxOf CX0 P w K mg base nWo "World.__init__" (defScope sWoI) f cdv A outer s H0 E).nox
/-- the arguments -/
structure WTr (H0 : Hp) (CR d : Addr) (kvs : List (Key × V)) (es : List (Str × Bool)) : Prop where
  hd : H0 d = some (.dK kvs)
  en : EnsAt CR H0 kvs es
  good : (es.map enB).all id = true
  one : 1 ≤ kvs.length
  few : kvs.length ≤ 8
  nd : ∀ kv ∈ kvs, kv.2 ≠ .ref d
theorem WTr.at {H0 : Hp} {CR d : Addr} {kvs : List (Key × V)} {es : List (Str × Bool)} {K : PySem.W.Frag} (W : WTr H0 CR d kvs es) : TrsAt K CR H0 (.ref d) true := by
  have h := TrsAt.dic (K := K) W.hd W.en (Nat.le_trans W.few (by decide)) W.nd
  have h1 := W.one
  have h2 := W.few
  rw [W.good, decide_eq_true (by omega : 1 ≤ (kvs.length : Int)), decide_eq_true (by omega : (kvs.length : Int) ≤ 8)] at h
  exact h
theorem WTr.keys {H0 : Hp} {CR d : Addr} {kvs : List (Key × V)} {es : List (Str × Bool)} (W : WTr H0 CR d kvs es) : kvs.map Prod.fst = (es.map Prod.fst).map Sum.inr := by
  refine List.ext_getElem? fun i => ?_
  rw [List.getElem?_map, List.map_map, List.getElem?_map]
  cases e1 : kvs[i]? with
  | none =>
    have : es[i]? = none := by
      rw [List.getElem?_eq_none_iff] at e1 ⊢
      rw [← W.en.1]
      exact e1
    rw [this]
    rfl
  | some kv =>
    have hi : i < es.length := by
      rw [← W.en.1]
      exact (List.getElem?_eq_some_iff.mp e1).1
    rw [List.getElem?_eq_getElem hi]
    exact congrArg some (W.en.2 i kv _ e1 (List.getElem?_eq_getElem hi)).1
theorem valV_mem {kvs : List (Key × V)} {k : Key} (h : k ∈ kvs.map Prod.fst) : ∃ v, valV kvs k = some v := by
  induction kvs with
  | nil => cases h
  | cons kv r ih =>
    by_cases e : kv.1 = k
    · exact ⟨kv.2, by simp [valV, e]⟩
    · obtain ⟨v, hv⟩ := ih (by
        rcases List.mem_cons.mp h with z | z
        · exact absurd z.symm e
        · exact z)
      exact ⟨v, by simpa [valV, e] using hv⟩
structure WArg (H0 : Hp) (CW CR x dx d : Addr) (kvs : List (Key × V)) (es : List (Str × Bool)) (z : Str) (mo : Int) : Prop where
  hx : H0 x = some (.ins CW dx [])
  tr : WTr H0 CR d kvs es
  hz : nameB z = true
  hl : z.length ≤ 100000
  zin : (Sum.inr z : Key) ∈ kvs.map Prod.fst
  ne : ∀ kv ∈ kvs, kv.2 ≠ .ref x
  m1 : 1 ≤ mo
  m2 : mo ≤ 5000
theorem WArg.nd {H0 : Hp} {CW CR x dx d : Addr} {kvs : List (Key × V)} {es : List (Str × Bool)} {z : Str} {mo : Int} (W : WArg H0 CW CR x dx d kvs es z mo) : d ≠ x := ne_of W.tr.hd W.hx (by intro z; cases z)
theorem WArg.trb {H0 H : Hp} {CW CR x dx d : Addr} {kvs : List (Key × V)} {es : List (Str × Bool)} {z : Str} {mo : Int} (W : WArg H0 CW CR x dx d kvs es z mo) (b : But x H0 H) : WTr H CR d kvs es :=
  ⟨b d _ W.nd W.tr.hd, W.tr.en.mono fun kv hk a o e h => b a o (fun z => W.ne kv hk (by rw [e, z])) h, W.tr.good, W.tr.one, W.tr.few, W.tr.nd⟩
abbrev sW0 (x d : Addr) (z : Str) (mo : Int) (top : Option V) : L2.St := [some (.ref x), some (.ref d), some (.str z), some (.int mo), top, none]
/-- a new object -/
def New (H0 : Hp) (x : Addr) (H : Hp) (p : Addr) (o : HO) : Prop := H0 p = none ∧ p ≠ x ∧ H p = some o
section
variable {P : Program} {w : World} {K : PySem.W.Frag} {mg : Str → Option Value} {base : Heap} {f : Addr} {cdv : Value} {A : Around} {outer : List Env} {s : Shared} {H0 : Hp} {E : XK} {CW CT CM CR x dx d : Addr} {kvs : List (Key × V)} {es : List (Str × Bool)} {z : Str} {mo : Int}
theorem hWo0 (C : WoC P w K mg base CW CT CM CR) (W : WArg H0 CW CR x dx d kvs es z mo) (hr : Room 6 (XWo P w K mg base f cdv A outer s H0 E).A) : Ho (XWo P w K mg base f cdv A outer s H0 E) (stW 0) (Fd (sW0 x d z mo none) H0 x CW dx [] 0) (Fd (sW0 x d z mo none) H0 x CW dx [] 0) := by
  refine ⟨_, ps_if (PW.pt (pw_or (pt_not (pt_val (pe_cl C.trees hr (by decide) (by rfl) pass0 (pa_cons (pv 1) pa_nil)))) (pw_or (pt_not (pt_val (pe_cl C.name hr (by decide) (by rfl) pass0 (pa_cons (pv 2) pa_nil)))) (pw_or1 (pt_cmp (pc_dnotin (units1 hr) (pv 2) (pv 1))))))) pss_never pss_nil, ?_⟩
  rintro D σ H ⟨rfl, b, hx, hn⟩ q
  have T := W.trb b
  refine ⟨_, rfl, _, true, rfl, T.at, fun H1 s1 => ⟨_, rfl, iteF ?_⟩⟩
  refine ⟨_, rfl, _, _, rfl, .str z W.hl, fun H2 s2 => ?_⟩
  rw [W.hz]
  obtain ⟨v, hv⟩ := valV_mem W.zin
  have sm := s1.trans s2
  refine ⟨_, rfl, iteF ⟨_, rfl, _, rfl, d, _, rfl, DGet.k (k := (Sum.inr z : Key)) (sm _ _ T.hd), _, rfl, ?_⟩⟩
  rw [hv]
  exact iteF (q _ _ ⟨rfl, b.trans (Same.but x sm), sm _ _ hx, hn⟩)
theorem hWo1 (C : WoC P w K mg base CW CT CM CR) (W : WArg H0 CW CR x dx d kvs es z mo) (hr : Room 6 (XWo P w K mg base f cdv A outer s H0 E).A) : Ho (XWo P w K mg base f cdv A outer s H0 E) (stW 1) (Fd (sW0 x d z mo none) H0 x CW dx [] 0) (Fd (sW0 x d z mo none) H0 x CW dx [] 0) := by
  refine ⟨_, ps_if (pt_not (pt_val (pe_cl C.whole hr (by decide) (by rfl) pass0 (pa_cons (pv 3) (pa_cons pe_int (pa_cons pe_int pa_nil)))))) pss_never pss_nil, ?_⟩
  rintro D σ H ⟨rfl, b, hx, hn⟩ q
  refine ⟨_, rfl, _, _, _, _, rfl, .int mo 1 5000, _, rfl, ?_⟩
  rw [decide_eq_true W.m1, decide_eq_true W.m2]
  exact iteF (q _ _ ⟨rfl, b, hx, hn⟩)
def GW3 (H0 : Hp) (x CW dx d : Addr) (z : Str) (mo : Int) : L2.St → Hp → Prop := fun σ H => σ = sW0 x d z mo none ∧ ∃ l1, But x H0 H ∧ H x = some (.ins CW dx [("first", .str z), ("deeds", .ref l1)]) ∧ New H0 x H l1 (.lst [])
def GW4 (H0 : Hp) (x CW dx d : Addr) (z : Str) (mo : Int) : L2.St → Hp → Prop := fun σ H => σ = sW0 x d z mo none ∧ ∃ l1 l2, But x H0 H ∧ H x = some (.ins CW dx [("first", .str z), ("deeds", .ref l1), ("sessions", .ref l2)]) ∧ New H0 x H l1 (.lst []) ∧ New H0 x H l2 (.lst []) ∧ l1 ≠ l2
theorem hWo3 (C : WoC P w K mg base CW CT CM CR) : Ho (XWo P w K mg base f cdv A outer s H0 E) (stW 3) (Fd (sW0 x d z mo none) H0 x CW dx [("first", .str z)] 1) (GW3 H0 x CW dx d z mo) := by
  refine ⟨_, ps_fld (pv 0) (pe_lst pa_nil) rfl, ?_⟩
  rintro D σ H ⟨rfl, b, hx, hn⟩ q
  refine ⟨by show 0 ≤ sizeLine; decide, fun l1 h1 => ?_⟩
  have hz := But.none b hx h1
  refine ⟨_, rfl, x, CW, dx, _, rfl, (by rw [upd_ne (ne_of_none hx h1)]; exact hx), C.cW.cl, C.cW.no _ (by decide +kernel), by show 1 < 1000; decide, q _ _ ⟨rfl, l1, (b.trans (But.new h1)).trans But.upd, upd_same, hz.1, hz.2, ?_⟩⟩
  rw [upd_ne hz.2]
  exact upd_same
theorem hWo4 (C : WoC P w K mg base CW CT CM CR) : Ho (XWo P w K mg base f cdv A outer s H0 E) (stW 4) (GW3 H0 x CW dx d z mo) (GW4 H0 x CW dx d z mo) := by
  refine ⟨_, ps_fld (pv 0) (pe_lst pa_nil) rfl, ?_⟩
  rintro D σ H ⟨rfl, l1, b, hx, n1, n2, n3⟩ q
  refine ⟨by show 0 ≤ sizeLine; decide, fun l2 h2 => ?_⟩
  have hz := But.none b hx h2
  refine ⟨_, rfl, x, CW, dx, _, rfl, (by rw [upd_ne (ne_of_none hx h2)]; exact hx), C.cW.cl, C.cW.no _ (by decide +kernel), by show 2 < 1000; decide, q _ _ ⟨rfl, l1, l2, (b.trans (But.new h2)).trans But.upd, upd_same, ⟨n1, n2, ?_⟩, ⟨hz.1, hz.2, ?_⟩, ne_of_none n3 h2⟩⟩
  · rw [upd_ne n2, upd_ne (ne_of_none n3 h2)]
    exact n3
  · rw [upd_ne hz.2]
    exact upd_same
/-- the table that is made -/
structure GT5 (H0 : Hp) (x CW dx d : Addr) (trs : List (Key × V)) (z : Str) (mo : Int) (CT : Addr) (H : Hp) (l1 l2 T dT tr ct : Addr) (ds : List Addr) : Prop where
  b : But x H0 H
  hx : H x = some (.ins CW dx (woF (.str z) (.ref l1) (.ref l2) (.ref T)))
  n1 : New H0 x H l1 (.lst [])
  n2 : New H0 x H l2 (.lst [])
  nT : New H0 x H T (.ins CT dT (pT7 (.ref tr) (.int mo) ds ++ ([("counts", V.ref ct)] : List (Str × V))))
  nr : New H0 x H tr (.dK trs)
  len : ds.length = 7
  nd : ∀ q ∈ ds, New H0 x H q (.dK [])
  nu : ds.Nodup
  nc : New H0 x H ct (.dK (cntK 0 0 0))
  cd : ct ∉ ds
  rd : tr ∉ ds
  rc : tr ≠ ct
  nl : l1 ≠ l2
def GW5 (H0 : Hp) (x CW dx d : Addr) (z : Str) (mo : Int) (CT : Addr) : L2.St → Hp → Prop := fun σ H => σ = sW0 x d z mo none ∧ ∃ l1 l2 T dT tr ct ds trs, GT5 H0 x CW dx d trs z mo CT H l1 l2 T dT tr ct ds
theorem hWo5 (C : WoC P w K mg base CW CT CM CR) (B : Bi mg) (W : WArg H0 CW CR x dx d kvs es z mo) (hr : Room 6 (XWo P w K mg base f cdv A outer s H0 E).A) : Ho (XWo P w K mg base f cdv A outer s H0 E) (stW 5) (GW4 H0 x CW dx d z mo) (GW5 H0 x CW dx d z mo CT) := by
  obtain ⟨fI, fdI, MK, FI, bI⟩ := C.mkT
  refine ⟨_, ps_fld (pv 0) (pe_make MK FI (hr.mono (by decide)) (by rfl) C.gT bI .nil pass0 (pa_cons (pe_dc (own := [("name", 5)]) (g := gName 5) (tt := tYes) (by rfl) scWoI.nd (pi_list (pe_callB (call_sortedD rfl) (by rfl) B.sorted boot_sorted (pa_cons (pv 1) pa_nil))) (blkOk_by (own := [("name", 5)]) (N := nWo) (sc := defScope sWoI) (by decide +kernel)) (fun _ _ _ _ _ => pg_name (i := 5) scWoI.nd rfl (Or.inl rfl)) (fun _ _ _ _ _ => pts_nil)
    (fun _ _ _ _ _ => pv 5) (fun _ _ _ _ _ => pe_dget (units1 hr) (pv 1) (pv 5) (fun _ _ => rfl))) (pa_cons (pv 3) pa_nil))) rfl, ?_⟩
  rintro D0 σ H ⟨rfl, l1, l2, b, hx, ⟨p1, p2, p3⟩, ⟨p4, p5, p6⟩, pn⟩ q
  have T5 := W.trb b
  have hd1 := T5.hd
  refine ⟨_, rfl, d, _, es.map Prod.fst, rfl, .inl hd1, T5.keys, by rw [List.length_map, ← T5.en.1]; exact Nat.lt_of_le_of_lt T5.few (by decide), fun ys p hp hs hpn => ?_⟩
  have hyl : ys.length ≤ 8 := by
    rw [hp.length_eq, List.length_map, ← T5.en.1]
    exact T5.few
  have sp := same_new (o := HO.lst (ys.map V.str)) hpn
  refine ⟨p, rfl, ⟨_, SqL.of upd_same⟩, fun D hD => dc_it (walk_list (K := K) (a := p) (xs := ys.map V.str)) (fun i H' => (∃ kv : List (Key × V), H' D = some (.dK kv) ∧ kv.length ≤ i) ∧ Same (upd H p (.lst (ys.map V.str))) H') ⟨⟨[], upd_same, Nat.le_refl _⟩, same_new hD⟩ (fun i H' _ h => SqL.of (h.2 _ _ upd_same)) ?_ ?_⟩
  · rintro i y H1 H2 hi ⟨⟨kv, h3, hkl⟩, sm⟩ ⟨rfl, hy⟩
    have hi2 : i < ys.length := by simpa using hi
    have hy2 : y = .str ys[i] := by
      have := hy
      rw [List.getElem?_map, List.getElem?_eq_getElem hi2] at this
      exact (Option.some.inj this).symm
    subst hy2
    have hm : (Sum.inr ys[i] : Key) ∈ kvs.map Prod.fst := by
      rw [T5.keys]
      exact List.mem_map.mpr ⟨ys[i], hp.subset (List.getElem_mem hi2), rfl⟩
    obtain ⟨v, hv⟩ := valV_mem hm
    have hlen : (putK kv (Sum.inr ys[i] : Key) v).length ≤ i + 1 := by
      have := length_mergeK [((Sum.inr ys[i] : Key), v)] kv
      have e : mergeK kv [((Sum.inr ys[i] : Key), v)] = putK kv (Sum.inr ys[i]) v := rfl
      rw [e] at this
      simp only [List.length_cons, List.length_nil] at this
      omega
    refine ⟨rfl, _, rfl, _, rfl, _, rfl, d, v, rfl, ?_, kv, (Sum.inr ys[i] : Key), rfl, h3, (by rw [sizeLine_eq]; omega), ⟨_, upd_same, hlen⟩, same_mut hD sm⟩
    rw [← hv]
    exact DGet.k (k := (Sum.inr ys[i] : Key)) (sm _ _ (sp _ _ hd1))
  · rintro HA ⟨⟨kvA, hDA, hkA⟩, sm⟩
    have sA : Same H HA := sp.trans sm
    refine ⟨_, rfl, fun T dT hT hdT neT => ⟨T, dT, .ref D, .int mo, rfl, upd_same, fun H5 ds ct hk b5 hT5 hd5 nd ncd hct0 hctT hct => ⟨rfl, ?_⟩⟩⟩
    have hB : ∀ {e : Addr}, e ≠ T → upd (upd HA dT (.own T)) T (.ins CT dT []) e = none → HA e = none := fun {e} ne h => by
      rw [upd_ne ne] at h
      by_cases z1 : e = dT
      · rw [z1, upd_same] at h
        cases h
      · rw [upd_ne z1] at h
        exact h
    have up5 : ∀ e o, HA e = some o → H5 e = some o := fun e o h => by
      refine b5 e o (ne_of_none h hT) ?_
      rw [upd_ne (ne_of_none h hT), upd_ne (ne_of_none h hdT)]
      exact h
    have bA : But x H0 HA := b.trans (Same.but x sA)
    have hxA := sA _ _ hx
    have zT := But.none bA hxA hT
    have hx5 := up5 _ _ hxA
    have old : ∀ {e : Addr}, HA e = none → H0 e = none ∧ e ≠ x := fun h => But.none bA hxA h
    have nD : H0 D = none ∧ D ≠ x := by
      refine But.none b hx ?_
      cases e : H D with
      | none => rfl
      | some o =>
        rw [sp _ _ e] at hD
        cases hD
    have b5' : But x H0 H5 := fun e o ne h => up5 e o (bA e o ne h)
    refine ⟨_, rfl, x, CW, dx, _, rfl, hx5, C.cW.cl, C.cW.no _ (by decide +kernel), by show 3 < 1000; decide, q _ _ ⟨rfl, l1, l2, T, dT, D, ct, ds, kvA, ?_⟩⟩
    refine ⟨b5'.trans But.upd, upd_same, ⟨p1, p2, ?_⟩, ⟨p4, p5, ?_⟩, ⟨zT.1, zT.2, ?_⟩, ⟨nD.1, nD.2, ?_⟩, hk, fun e he => ?_, nd, ?_, ncd, fun he => ?_, fun he => ?_, pn⟩
    · rw [upd_ne p2]
      exact up5 _ _ (sA _ _ p3)
    · rw [upd_ne p5]
      exact up5 _ _ (sA _ _ p6)
    · rw [upd_ne zT.2]
      exact hT5
    · rw [upd_ne nD.2]
      exact up5 _ _ hDA
    · obtain ⟨h1, h2, h3⟩ := hd5 e he
      have z0 := old (hB h2 h1)
      exact ⟨z0.1, z0.2, by rw [upd_ne z0.2]; exact h3⟩
    · have z0 := old (hB hctT hct0)
      exact ⟨z0.1, z0.2, by rw [upd_ne z0.2]; exact hct⟩
    · obtain ⟨h1, h2, h3⟩ := hd5 D he
      have := hB h2 h1
      rw [hDA] at this
      cases this
    · subst he
      have := hB hctT hct0
      rw [hDA] at this
      cases this
end
end Tx
set_option autoImplicit true
set_option Elab.async false
set_option linter.all false
set_option maxRecDepth 100000
set_option maxHeartbeats 8000000
namespace Rp
open PySem PySem.Spec PyProof.Rows L2 Cm Ob Tx
abbrev sTbC : Stmt := inClass sTableC 1
abbrev nTC : List Str := ["self", "other", "number", "mount", "some", "group"]
theorem scTbC : FnScope nTC ["self"] (defScope sTbC) := ⟨rfl, rfl, rfl, by decide +kernel, rfl, by decide +kernel, by decide +kernel⟩
def stTC (i : Nat) : Stmt := (defBody sTbC).getD i (.Pass ⟨0, 0, 0, 0⟩)
theorem bodyTbC : defBody sTbC = [stTC 0, stTC 1, stTC 2, stTC 3, stTC 4, stTC 5, stTC 6, stTC 7] := rfl
def asgV (st : Stmt) : Expr := match st with | .Assign _ v _ => v | _ => .Constant .none 0 ⟨0, 0, 0, 0⟩
abbrev XTC (P : Program) (w : World) (K : PySem.W.Frag) (mg : Str → Option Value) (base : Heap) (f : Addr) (cdv : Value) (A : Around) (outer : List Env) (s : Shared) (H0 : Hp) (E : XK) : Cx := (cxOf CX0 P w K mg base nTC "Table.copied" (defScope sTbC) f cdv A outer s H0 E).nox
/-- new: a dict at D of the numbers l, new objects o at a -/
structure Blk (H H' : Hp) (D : Addr) (l : List Int) (a : Int → Addr) (o : Int → HO) : Prop where
  nD : H D = none
  hD : H' D = some (.dK (dk l fun n => .ref (a n)))
  nA : ∀ n ∈ l, H (a n) = none
  hA : ∀ n ∈ l, H' (a n) = some (o n)
  inj : ∀ n ∈ l, ∀ k ∈ l, a n = a k → n = k
  ne : ∀ n ∈ l, a n ≠ D
/-- .. so far -/
structure BlI (HL H' : Hp) (D : Addr) (l : List Int) (a : Int → Addr) (o : Int → HO) : Prop where
  hD : H' D = some (.dK (dk l fun n => .ref (a n)))
  nA : ∀ n ∈ l, HL (a n) = none
  hA : ∀ n ∈ l, H' (a n) = some (o n)
  inj : ∀ n ∈ l, ∀ k ∈ l, a n = a k → n = k
  ne : ∀ n ∈ l, a n ≠ D
theorem BlI.snoc {HL H2 H3 : Hp} {D p : Addr} {l : List Int} {a : Int → Addr} {o : Int → HO} {n : Int} {u : HO} (b : BlI HL H2 D l a o) (sL : Same HL H2) (s3 : Same H2 H3) (np : H2 p = none) (hp : H3 p = some u) (hn : n ∉ l) : BlI HL (upd H3 D (.dK (putK (dk l fun n => .ref (a n)) (Sum.inl n) (.ref p)))) D (l ++ [n]) (fu a n p) (fu o n u) := by
  have pD : p ≠ D := fun e => by
    rw [e, b.hD] at np
    cases np
  have pl : ∀ k ∈ l, p ≠ a k := fun k hk e => by
    rw [e, b.hA k hk] at np
    cases np
  have nk : ∀ k ∈ l, k ≠ n := fun k hk e => hn (by rw [← e]; exact hk)
  have npL : HL p = none := by
    cases e : HL p with
    | none => rfl
    | some q =>
      rw [sL _ _ e] at np
      cases np
  refine ⟨?_, fun k hk => ?_, fun k hk => ?_, fun k hk j hj e => ?_, fun k hk => ?_⟩
  · rw [upd_same, put_dk_new hn]
    exact congrArg some (congrArg HO.dK (by rw [fu_map (F := V.ref)]))
  · rcases List.mem_append.mp hk with h | h
    · rw [fu_ne (nk k h)]
      exact b.nA k h
    · rw [List.mem_singleton.mp h, fu_same]
      exact npL
  · rcases List.mem_append.mp hk with h | h
    · rw [fu_ne (nk k h), fu_ne (nk k h), upd_ne (b.ne k h)]
      exact s3 _ _ (b.hA k h)
    · rw [List.mem_singleton.mp h, fu_same, fu_same, upd_ne pD]
      exact hp
  · rcases List.mem_append.mp hk with h | h
    · rcases List.mem_append.mp hj with h' | h'
      · rw [fu_ne (nk k h), fu_ne (nk j h')] at e
        exact b.inj k h j h' e
      · rw [List.mem_singleton.mp h', fu_same, fu_ne (nk k h)] at e
        exact absurd e.symm (pl k h)
    · rcases List.mem_append.mp hj with h' | h'
      · rw [List.mem_singleton.mp h, fu_same, fu_ne (nk j h')] at e
        exact absurd e (pl j h')
      · rw [List.mem_singleton.mp h, List.mem_singleton.mp h']
  · rcases List.mem_append.mp hk with h | h
    · rw [fu_ne (nk k h)]
      exact b.ne k h
    · rw [List.mem_singleton.mp h, fu_same]
      exact pD
theorem BlI.same {HL H2 H3 : Hp} {D : Addr} {l : List Int} {a : Int → Addr} {o : Int → HO} (b : BlI HL H2 D l a o) (s : Same H2 H3) : BlI HL H3 D l a o := ⟨s _ _ b.hD, b.nA, fun n hn => s _ _ (b.hA n hn), b.inj, b.ne⟩
theorem BlI.fin {H H' : Hp} {dd D : Addr} {od : Obj} {u : HO} {l : List Int} {a : Int → Addr} {o : Int → HO} (hd : H dd = some u) (b : BlI (upd H dd (.frz od u)) H' D l a o) (hD : upd H dd (.frz od u) D = none) : Blk H (upd H' dd u) D l a o := by
  have n1 : D ≠ dd := fun e => by
    rw [e, upd_same] at hD
    cases hD
  have n2 : ∀ n ∈ l, a n ≠ dd := fun n hn e => by
    have := b.nA n hn
    rw [e, upd_same] at this
    cases this
  refine ⟨by rw [upd_ne n1] at hD; exact hD, by rw [upd_ne n1]; exact b.hD, fun n hn => ?_, fun n hn => by rw [upd_ne (n2 n hn)]; exact b.hA n hn, b.inj, b.ne⟩
  have := b.nA n hn
  rw [upd_ne (n2 n hn)] at this
  exact this
theorem nodup_take {l : List Int} (h : l.Nodup) {i : Nat} {n : Int} (hn : l[i]? = some n) : n ∉ l.take i := fun hm => by
  obtain ⟨j, hj, e⟩ := List.mem_take_iff_getElem.mp hm
  have hi := (List.getElem?_eq_some_iff.mp hn)
  obtain ⟨hi1, hi2⟩ := hi
  exact List.pairwise_iff_getElem.mp h j i (by omega) hi1 (by omega) (by rw [e, hi2])
/-- dict(d), d empty, for tuples -/
theorem call_dictT0 {X : Cx} : CallR X (.type "dict") (fun xs H Q => ∃ a, xs = [.ref a] ∧ H a = some (.dT []) ∧ ∀ p, H p = none → Q (.ref p) (upd H p (.dT []))) := by
  intro pins s σ H xs us Q I r q
  obtain ⟨a, ex, hd, q⟩ := q
  subst ex
  obtain ⟨u, eu, rx⟩ := vals1 r
  subst eu
  cases rx
  obtain ⟨_, lo, ys, pd, o, es, ep, hg, hx, hdat, he, hn⟩ := (show ObjOk X.prog X.w H s.heap a (.dT []) from I.hok a _ hd)
  cases pd
  have ee : es = #[] := Array.toList_inj.mp he
  subst ee
  have dd : s.heap.DictOf (mixKind X.prog X.w) a [] := ⟨o, #[], ep, hg, hx, hdat, (fun e h => by simp at h), .nil, List.nodup_nil⟩
  refine kt_call_dict lo dd (Nat.zero_le _) fun h' d' hs => ?_
  have hm : (s.heap.objs.size == sysModules) = false := beq_eq_false_iff_ne.mpr (Nat.ne_of_gt I.big)
  obtain ⟨o', es', ep', hg', hx', hd', _, hp', _⟩ := d'
  have e0 : es'.toList = [] := by
    have := hp'.length
    simpa using this
  exact ⟨.ref s.heap.objs.size, upd H s.heap.objs.size (.dT []), I.laid (t' := s.toks) (fun b u e => (hs.2 b (Nat.ne_of_lt (Heap.lt_size e))).trans (Heap.get?_push_of_some _ e)) (Nat.le_refl _)
    (show ObjOk X.prog X.w _ _ _ (.dT []) from ⟨Nat.zero_le _, hm, [], .nil, o', es', ep', hg', hx', hd', e0, List.nodup_nil⟩), rfl, q _ (I.hok.fresh (Nat.le_refl _))⟩
section
variable {P : Program} {w : World} {K : PySem.W.Frag} {mg : Str → Option Value} {base : Heap} {f : Addr} {cdv : Value} {A : Around} {outer : List Env} {s : Shared} {H0 : Hp} {E : XK} {CM CT : Addr}
theorem pe_ck (c : Cn K CT tbN) (cM : Cn K CM mtN) (Mc : MT P w K mg base 3 CM "copied" ["self"] (spMtC CM)) (hr : Room 3 (XTC P w K mg base f cdv A outer s H0 E).A) : PE (XTC P w K mg base f cdv A outer s H0 E) (asgV (stTC 1)) (fun σ H Q => ∃ d t B, (∃ x, σ = [some (.ref (d.a .tab)), x, none, none, none, none]) ∧ TabAt CT CM H d t ∧ Sz B t ∧ t.kn.Nodup ∧
    ∀ D a o H', Same H H' → Blk H H' D t.kn a o → (∀ n ∈ t.kn, ∃ dm, o n = .ins CM dm (mnF n (t.mn n))) → Q (.ref D) H') := by
  obtain ⟨fC, fdC, mC, FC, bC⟩ := Mc
  refine Wl.PE.weak (pe_lock (pe_dc (own := [("number", 2), ("mount", 3)]) (g := gTup K 2 (gCons (gName 2) (gCons (gName 3) gNil))) (tt := tYes) (by rfl) scTbC.nd (pi_items (pe_fld (pv 0) rfl)) (blkOk_by (own := [("number", 2), ("mount", 3)]) (N := nTC) (sc := defScope sTbC) (by decide +kernel))
    (fun _ _ _ _ _ => pg_tup rfl (pgs_cons (pg_name (i := 2) scTbC.nd rfl (Or.inl rfl)) (pgs_cons (pg_name (i := 3) scTbC.nd rfl (Or.inl rfl)) pgs_nil))) (fun _ _ _ _ _ => pts_nil) (fun _ _ _ _ _ => pv 2) (fun _ _ _ _ _ => pe_meth0 (pv 3) cM.cl mC FC hr bC .nil pass0))) ?_
  rintro σ H Q ⟨d, t, B, ⟨x0, rfl⟩, h, z, nd, q⟩
  refine ⟨d.a .kn, _, h.all .kn trivial, trivial, fun od => ?_⟩
  have nT : d.a .tab ≠ d.a .kn := fun e => by cases h.inj .tab .kn trivial trivial e
  have hT1 : upd H (d.a .kn) (.frz od (ob CT CM d t .kn)) (d.a .tab) = some (ob CT CM d t .tab) := by
    rw [upd_ne nT]
    exact h.all .tab trivial
  refine ⟨_, rfl, d.a .tab, CT, d.dT, _, .ref (d.a .kn), rfl, hT1, c.cl, c.no _ (by decide +kernel), rfl, d.a .kn, od, _, rfl, upd_same, fun D hD => dc_it walk_items (fun i H' => Same (upd H (d.a .kn) (.frz od (ob CT CM d t .kn))) H' ∧ ∃ a o, BlI (upd H (d.a .kn) (.frz od (ob CT CM d t .kn))) H' D (t.kn.take i) a o ∧ ∀ n ∈ t.kn.take i, ∃ dm, o n = .ins CM dm (mnF n (t.mn n))) ⟨same_new hD, fun _ => 0, fun _ => .dK [], ⟨upd_same, (fun n hn => by cases hn), (fun n hn => by cases hn), (fun n hn => by cases hn), (fun n hn => by cases hn)⟩, (fun n hn => by cases hn)⟩ (fun i H' _ h => h.1 _ _ upd_same) ?_ ?_⟩
  · rintro i x H1 H2 hi ⟨sm, a, o, b, hc⟩ ⟨T1, xx, yy, rfl, hT, rfl, hx, hy⟩
    have hi' : i < t.kn.length := by
      rw [dk_len] at hi
      exact hi
    have hn : t.kn[i]? = some t.kn[i] := List.getElem?_eq_getElem hi'
    generalize hnn : t.kn[i] = n at hn
    have ln : n ∈ t.kn := List.mem_of_getElem? hn
    have ed : (dk t.kn fun n => V.ref (d.a (.mt n)))[i]? = some (Sum.inl n, .ref (d.a (.mt n))) := by
      unfold dk
      rw [List.getElem?_map, hn]
      rfl
    have hx : (dk t.kn fun n => V.ref (d.a (.mt n)))[i]?.map (fun kv => kV kv.1) = some xx := hx
    have hy : (dk t.kn fun n => V.ref (d.a (.mt n)))[i]?.map Prod.snd = some yy := hy
    rw [ed] at hx hy
    cases hx
    cases hy
    have sT := same_new (o := HO.tup [kV (Sum.inl n : Key), .ref (d.a (.mt n))]) hT
    have hsrc := sT _ _ (sm _ _ (show upd H (d.a .kn) (.frz od (ob CT CM d t .kn)) (d.a (.mt n)) = some (ob CT CM d t (.mt n)) by
      rw [upd_ne (fun e => by cases h.inj (.mt n) .kn ln trivial e)]
      exact h.all (.mt n) ln))
    have b2 : BlI (upd H (d.a .kn) (.frz od (ob CT CM d t .kn))) (upd H1 T1 (.tup [kV (Sum.inl n : Key), .ref (d.a (.mt n))])) D (t.kn.take i) a o := b.same sT
    refine ⟨T1, _, rfl, SqT.of upd_same, rfl, _, _, rfl, _, _, rfl, rfl, rfl, _, rfl, _, rfl, d.a (.mt n), d.dm n, _, rfl, hsrc, rfl, d.a (.mt n), d.dm n, _, _, _, _, _, _, _, _, _, _, _, rfl, hsrc, fun H3 m' dm' s3 n3 h3 => ?_⟩
    have b3 := b2.snoc (sm.trans sT) s3 n3 h3 (nodup_take nd hn)
    refine ⟨_, Sum.inl n, rfl, s3 _ _ b2.hD, z.lt (by rw [dk_len, List.length_take]; exact Nat.le_trans (Nat.min_le_right _ _) z.kn), same_mut hD ((sm.trans sT).trans s3), _, _, by rw [take_snoc hn]; exact b3, fun k hk => ?_⟩
    rw [take_snoc hn] at hk
    rcases List.mem_append.mp hk with hk | hk
    · rw [fu_ne (fun e => nodup_take nd hn (by rw [← e]; exact hk))]
      exact hc k hk
    · rw [List.mem_singleton.mp hk, fu_same] <;> exact ⟨_, rfl⟩
  · rintro H1 ⟨sm, a, o, b, hc⟩
    rw [dk_len, List.take_of_length_le (Nat.le_refl _)] at b hc
    exact ⟨sm _ _ upd_same, q D a o _ (unlock (h.all .kn trivial) sm) (b.fin (h.all .kn trivial) hD) hc⟩
theorem pe_cp (c : Cn K CT tbN) (B' : Bi mg) : PE (XTC P w K mg base f cdv A outer s H0 E) (asgV (stTC 2)) (fun σ H Q => ∃ d t B, (∃ x, σ = [some (.ref (d.a .tab)), x, none, none, none, none]) ∧ TabAt CT CM H d t ∧ Sz B t ∧ t.kp.Nodup ∧ (∀ n ∈ t.kp, t.pc n = []) ∧
    ∀ D a o H', Same H H' → Blk H H' D t.kp a o → (∀ n ∈ t.kp, o n = .dT (t.pc n)) → Q (.ref D) H') := by
  refine Wl.PE.weak (pe_lock (pe_dc (own := [("number", 2), ("some", 4)]) (g := gTup K 2 (gCons (gName 2) (gCons (gName 4) gNil))) (tt := tYes) (by rfl) scTbC.nd (pi_items (pe_fld (pv 0) rfl)) (blkOk_by (own := [("number", 2), ("some", 4)]) (N := nTC) (sc := defScope sTbC) (by decide +kernel))
    (fun _ _ _ _ _ => pg_tup rfl (pgs_cons (pg_name (i := 2) scTbC.nd rfl (Or.inl rfl)) (pgs_cons (pg_name (i := 4) scTbC.nd rfl (Or.inl rfl)) pgs_nil))) (fun _ _ _ _ _ => pts_nil) (fun _ _ _ _ _ => pv 2) (fun _ _ _ _ _ => pe_callTy call_dictT0 (by rfl) B'.dict (by decide +kernel) (pa_cons (pv 4) pa_nil)))) ?_
  rintro σ H Q ⟨d, t, B, ⟨x0, rfl⟩, h, z, nd, pe, q⟩
  refine ⟨d.a .pl, _, h.all .pl trivial, trivial, fun od => ?_⟩
  have nT : d.a .tab ≠ d.a .pl := fun e => by cases h.inj .tab .pl trivial trivial e
  have hT1 : upd H (d.a .pl) (.frz od (ob CT CM d t .pl)) (d.a .tab) = some (ob CT CM d t .tab) := by
    rw [upd_ne nT]
    exact h.all .tab trivial
  refine ⟨_, rfl, d.a .tab, CT, d.dT, _, .ref (d.a .pl), rfl, hT1, c.cl, c.no _ (by decide +kernel), rfl, d.a .pl, od, _, rfl, upd_same, fun D hD => dc_it walk_items (fun i H' => Same (upd H (d.a .pl) (.frz od (ob CT CM d t .pl))) H' ∧ ∃ a o, BlI (upd H (d.a .pl) (.frz od (ob CT CM d t .pl))) H' D (t.kp.take i) a o ∧ ∀ n ∈ t.kp.take i, o n = .dT (t.pc n)) ⟨same_new hD, fun _ => 0, fun _ => .dK [], ⟨upd_same, (fun n hn => by cases hn), (fun n hn => by cases hn), (fun n hn => by cases hn), (fun n hn => by cases hn)⟩, (fun n hn => by cases hn)⟩ (fun i H' _ h => h.1 _ _ upd_same) ?_ ?_⟩
  · rintro i x H1 H2 hi ⟨sm, a, o, b, hc⟩ ⟨T1, xx, yy, rfl, hT, rfl, hx, hy⟩
    have hi' : i < t.kp.length := by
      rw [dk_len] at hi
      exact hi
    have hn : t.kp[i]? = some t.kp[i] := List.getElem?_eq_getElem hi'
    generalize hnn : t.kp[i] = n at hn
    have ln : n ∈ t.kp := List.mem_of_getElem? hn
    have ed : (dk t.kp fun n => V.ref (d.a (.pc n)))[i]? = some (Sum.inl n, .ref (d.a (.pc n))) := by
      unfold dk
      rw [List.getElem?_map, hn]
      rfl
    have hx : (dk t.kp fun n => V.ref (d.a (.pc n)))[i]?.map (fun kv => kV kv.1) = some xx := hx
    have hy : (dk t.kp fun n => V.ref (d.a (.pc n)))[i]?.map Prod.snd = some yy := hy
    rw [ed] at hx hy
    cases hx
    cases hy
    have sT := same_new (o := HO.tup [kV (Sum.inl n : Key), .ref (d.a (.pc n))]) hT
    have hsrc := sT _ _ (sm _ _ (show upd H (d.a .pl) (.frz od (ob CT CM d t .pl)) (d.a (.pc n)) = some (ob CT CM d t (.pc n)) by
      rw [upd_ne (fun e => by cases h.inj (.pc n) .pl ln trivial e)]
      exact h.all (.pc n) ln))
    have b2 : BlI (upd H (d.a .pl) (.frz od (ob CT CM d t .pl))) (upd H1 T1 (.tup [kV (Sum.inl n : Key), .ref (d.a (.pc n))])) D (t.kp.take i) a o := b.same sT
    refine ⟨T1, _, rfl, SqT.of upd_same, rfl, _, _, rfl, _, _, rfl, rfl, rfl, _, rfl, _, rfl, d.a (.pc n), rfl, (by rw [hsrc]; show some (HO.dT (t.pc n)) = _; rw [pe n ln]), fun p n3 => ?_⟩
    have s3 := same_new (o := HO.dT []) n3
    have h3 : upd (upd H1 T1 (.tup [kV (Sum.inl n : Key), .ref (d.a (.pc n))])) p (HO.dT []) p = some (HO.dT []) := upd_same
    have b3 := b2.snoc (sm.trans sT) s3 n3 h3 (nodup_take nd hn)
    refine ⟨_, Sum.inl n, rfl, s3 _ _ b2.hD, z.lt (by rw [dk_len, List.length_take]; exact Nat.le_trans (Nat.min_le_right _ _) z.kp), same_mut hD ((sm.trans sT).trans s3), _, _, by rw [take_snoc hn]; exact b3, fun k hk => ?_⟩
    rw [take_snoc hn] at hk
    rcases List.mem_append.mp hk with hk | hk
    · rw [fu_ne (fun e => nodup_take nd hn (by rw [← e]; exact hk))]
      exact hc k hk
    · rw [List.mem_singleton.mp hk, fu_same] <;> exact by rw [pe n ln]
  · rintro H1 ⟨sm, a, o, b, hc⟩
    rw [dk_len, List.take_of_length_le (Nat.le_refl _)] at b hc
    exact ⟨sm _ _ upd_same, q D a o _ (unlock (h.all .pl trivial) sm) (b.fin (h.all .pl trivial) hD) hc⟩
theorem pe_cm (c : Cn K CT tbN) (B' : Bi mg) : PE (XTC P w K mg base f cdv A outer s H0 E) (asgV (stTC 4)) (fun σ H Q => ∃ d t B, (∃ x, σ = [some (.ref (d.a .tab)), x, none, none, none, none]) ∧ TabAt CT CM H d t ∧ Sz B t ∧ t.gb.Nodup ∧
    ∀ D a o H', Same H H' → Blk H H' D t.gb a o → (∀ n ∈ t.gb, o n = set1 (t.me n)) → Q (.ref D) H') := by
  refine Wl.PE.weak (pe_lock (pe_dc (own := [("group", 5), ("some", 4)]) (g := gTup K 2 (gCons (gName 5) (gCons (gName 4) gNil))) (tt := tYes) (by rfl) scTbC.nd (pi_items (pe_fld (pv 0) rfl)) (blkOk_by (own := [("group", 5), ("some", 4)]) (N := nTC) (sc := defScope sTbC) (by decide +kernel))
    (fun _ _ _ _ _ => pg_tup rfl (pgs_cons (pg_name (i := 5) scTbC.nd rfl (Or.inl rfl)) (pgs_cons (pg_name (i := 4) scTbC.nd rfl (Or.inl rfl)) pgs_nil))) (fun _ _ _ _ _ => pts_nil) (fun _ _ _ _ _ => pv 5) (fun _ _ _ _ _ => pe_callTy call_dictD (by rfl) B'.dict (by decide +kernel) (pa_cons (pv 4) pa_nil)))) ?_
  rintro σ H Q ⟨d, t, B, ⟨x0, rfl⟩, h, z, nd, q⟩
  refine ⟨d.a .mb, _, h.all .mb trivial, trivial, fun od => ?_⟩
  have nT : d.a .tab ≠ d.a .mb := fun e => by cases h.inj .tab .mb trivial trivial e
  have hT1 : upd H (d.a .mb) (.frz od (ob CT CM d t .mb)) (d.a .tab) = some (ob CT CM d t .tab) := by
    rw [upd_ne nT]
    exact h.all .tab trivial
  refine ⟨_, rfl, d.a .tab, CT, d.dT, _, .ref (d.a .mb), rfl, hT1, c.cl, c.no _ (by decide +kernel), rfl, d.a .mb, od, _, rfl, upd_same, fun D hD => dc_it walk_items (fun i H' => Same (upd H (d.a .mb) (.frz od (ob CT CM d t .mb))) H' ∧ ∃ a o, BlI (upd H (d.a .mb) (.frz od (ob CT CM d t .mb))) H' D (t.gb.take i) a o ∧ ∀ n ∈ t.gb.take i, o n = set1 (t.me n)) ⟨same_new hD, fun _ => 0, fun _ => .dK [], ⟨upd_same, (fun n hn => by cases hn), (fun n hn => by cases hn), (fun n hn => by cases hn), (fun n hn => by cases hn)⟩, (fun n hn => by cases hn)⟩ (fun i H' _ h => h.1 _ _ upd_same) ?_ ?_⟩
  · rintro i x H1 H2 hi ⟨sm, a, o, b, hc⟩ ⟨T1, xx, yy, rfl, hT, rfl, hx, hy⟩
    have hi' : i < t.gb.length := by
      rw [dk_len] at hi
      exact hi
    have hn : t.gb[i]? = some t.gb[i] := List.getElem?_eq_getElem hi'
    generalize hnn : t.gb[i] = n at hn
    have ln : n ∈ t.gb := List.mem_of_getElem? hn
    have ed : (dk t.gb fun n => V.ref (d.a (.me n)))[i]? = some (Sum.inl n, .ref (d.a (.me n))) := by
      unfold dk
      rw [List.getElem?_map, hn]
      rfl
    have hx : (dk t.gb fun n => V.ref (d.a (.me n)))[i]?.map (fun kv => kV kv.1) = some xx := hx
    have hy : (dk t.gb fun n => V.ref (d.a (.me n)))[i]?.map Prod.snd = some yy := hy
    rw [ed] at hx hy
    cases hx
    cases hy
    have sT := same_new (o := HO.tup [kV (Sum.inl n : Key), .ref (d.a (.me n))]) hT
    have hsrc := sT _ _ (sm _ _ (show upd H (d.a .mb) (.frz od (ob CT CM d t .mb)) (d.a (.me n)) = some (ob CT CM d t (.me n)) by
      rw [upd_ne (fun e => by cases h.inj (.me n) .mb ln trivial e)]
      exact h.all (.me n) ln))
    have b2 : BlI (upd H (d.a .mb) (.frz od (ob CT CM d t .mb))) (upd H1 T1 (.tup [kV (Sum.inl n : Key), .ref (d.a (.me n))])) D (t.gb.take i) a o := b.same sT
    refine ⟨T1, _, rfl, SqT.of upd_same, rfl, _, _, rfl, _, _, rfl, rfl, rfl, _, rfl, _, rfl, d.a (.me n), _, rfl, .inl hsrc, fun p n3 => ?_⟩
    have s3 := same_new (o := set1 (t.me n)) n3
    have h3 : upd (upd H1 T1 (.tup [kV (Sum.inl n : Key), .ref (d.a (.me n))])) p (set1 (t.me n)) p = some (set1 (t.me n)) := upd_same
    have b3 := b2.snoc (sm.trans sT) s3 n3 h3 (nodup_take nd hn)
    refine ⟨_, Sum.inl n, rfl, s3 _ _ b2.hD, z.lt (by rw [dk_len, List.length_take]; exact Nat.le_trans (Nat.min_le_right _ _) z.gb), same_mut hD ((sm.trans sT).trans s3), _, _, by rw [take_snoc hn]; exact b3, fun k hk => ?_⟩
    rw [take_snoc hn] at hk
    rcases List.mem_append.mp hk with hk | hk
    · rw [fu_ne (fun e => nodup_take nd hn (by rw [← e]; exact hk))]
      exact hc k hk
    · rw [List.mem_singleton.mp hk, fu_same] <;> exact rfl
  · rintro H1 ⟨sm, a, o, b, hc⟩
    rw [dk_len, List.take_of_length_le (Nat.le_refl _)] at b hc
    exact ⟨sm _ _ upd_same, q D a o _ (unlock (h.all .mb trivial) sm) (b.fin (h.all .mb trivial) hD) hc⟩
theorem pe_cb (c : Cn K CT tbN) (B' : Bi mg) : PE (XTC P w K mg base f cdv A outer s H0 E) (asgV (stTC 5)) (fun σ H Q => ∃ d t B, (∃ x, σ = [some (.ref (d.a .tab)), x, none, none, none, none]) ∧ TabAt CT CM H d t ∧ Sz B t ∧ t.gh.Nodup ∧
    ∀ D a o H', Same H H' → Blk H H' D t.gh a o → (∀ n ∈ t.gh, o n = set1 (t.be n)) → Q (.ref D) H') := by
  refine Wl.PE.weak (pe_lock (pe_dc (own := [("group", 5), ("some", 4)]) (g := gTup K 2 (gCons (gName 5) (gCons (gName 4) gNil))) (tt := tYes) (by rfl) scTbC.nd (pi_items (pe_fld (pv 0) rfl)) (blkOk_by (own := [("group", 5), ("some", 4)]) (N := nTC) (sc := defScope sTbC) (by decide +kernel))
    (fun _ _ _ _ _ => pg_tup rfl (pgs_cons (pg_name (i := 5) scTbC.nd rfl (Or.inl rfl)) (pgs_cons (pg_name (i := 4) scTbC.nd rfl (Or.inl rfl)) pgs_nil))) (fun _ _ _ _ _ => pts_nil) (fun _ _ _ _ _ => pv 5) (fun _ _ _ _ _ => pe_callTy call_dictD (by rfl) B'.dict (by decide +kernel) (pa_cons (pv 4) pa_nil)))) ?_
  rintro σ H Q ⟨d, t, B, ⟨x0, rfl⟩, h, z, nd, q⟩
  refine ⟨d.a .bh, _, h.all .bh trivial, trivial, fun od => ?_⟩
  have nT : d.a .tab ≠ d.a .bh := fun e => by cases h.inj .tab .bh trivial trivial e
  have hT1 : upd H (d.a .bh) (.frz od (ob CT CM d t .bh)) (d.a .tab) = some (ob CT CM d t .tab) := by
    rw [upd_ne nT]
    exact h.all .tab trivial
  refine ⟨_, rfl, d.a .tab, CT, d.dT, _, .ref (d.a .bh), rfl, hT1, c.cl, c.no _ (by decide +kernel), rfl, d.a .bh, od, _, rfl, upd_same, fun D hD => dc_it walk_items (fun i H' => Same (upd H (d.a .bh) (.frz od (ob CT CM d t .bh))) H' ∧ ∃ a o, BlI (upd H (d.a .bh) (.frz od (ob CT CM d t .bh))) H' D (t.gh.take i) a o ∧ ∀ n ∈ t.gh.take i, o n = set1 (t.be n)) ⟨same_new hD, fun _ => 0, fun _ => .dK [], ⟨upd_same, (fun n hn => by cases hn), (fun n hn => by cases hn), (fun n hn => by cases hn), (fun n hn => by cases hn)⟩, (fun n hn => by cases hn)⟩ (fun i H' _ h => h.1 _ _ upd_same) ?_ ?_⟩
  · rintro i x H1 H2 hi ⟨sm, a, o, b, hc⟩ ⟨T1, xx, yy, rfl, hT, rfl, hx, hy⟩
    have hi' : i < t.gh.length := by
      rw [dk_len] at hi
      exact hi
    have hn : t.gh[i]? = some t.gh[i] := List.getElem?_eq_getElem hi'
    generalize hnn : t.gh[i] = n at hn
    have ln : n ∈ t.gh := List.mem_of_getElem? hn
    have ed : (dk t.gh fun n => V.ref (d.a (.be n)))[i]? = some (Sum.inl n, .ref (d.a (.be n))) := by
      unfold dk
      rw [List.getElem?_map, hn]
      rfl
    have hx : (dk t.gh fun n => V.ref (d.a (.be n)))[i]?.map (fun kv => kV kv.1) = some xx := hx
    have hy : (dk t.gh fun n => V.ref (d.a (.be n)))[i]?.map Prod.snd = some yy := hy
    rw [ed] at hx hy
    cases hx
    cases hy
    have sT := same_new (o := HO.tup [kV (Sum.inl n : Key), .ref (d.a (.be n))]) hT
    have hsrc := sT _ _ (sm _ _ (show upd H (d.a .bh) (.frz od (ob CT CM d t .bh)) (d.a (.be n)) = some (ob CT CM d t (.be n)) by
      rw [upd_ne (fun e => by cases h.inj (.be n) .bh ln trivial e)]
      exact h.all (.be n) ln))
    have b2 : BlI (upd H (d.a .bh) (.frz od (ob CT CM d t .bh))) (upd H1 T1 (.tup [kV (Sum.inl n : Key), .ref (d.a (.be n))])) D (t.gh.take i) a o := b.same sT
    refine ⟨T1, _, rfl, SqT.of upd_same, rfl, _, _, rfl, _, _, rfl, rfl, rfl, _, rfl, _, rfl, d.a (.be n), _, rfl, .inl hsrc, fun p n3 => ?_⟩
    have s3 := same_new (o := set1 (t.be n)) n3
    have h3 : upd (upd H1 T1 (.tup [kV (Sum.inl n : Key), .ref (d.a (.be n))])) p (set1 (t.be n)) p = some (set1 (t.be n)) := upd_same
    have b3 := b2.snoc (sm.trans sT) s3 n3 h3 (nodup_take nd hn)
    refine ⟨_, Sum.inl n, rfl, s3 _ _ b2.hD, z.lt (by rw [dk_len, List.length_take]; exact Nat.le_trans (Nat.min_le_right _ _) z.gh), same_mut hD ((sm.trans sT).trans s3), _, _, by rw [take_snoc hn]; exact b3, fun k hk => ?_⟩
    rw [take_snoc hn] at hk
    rcases List.mem_append.mp hk with hk | hk
    · rw [fu_ne (fun e => nodup_take nd hn (by rw [← e]; exact hk))]
      exact hc k hk
    · rw [List.mem_singleton.mp hk, fu_same] <;> exact rfl
  · rintro H1 ⟨sm, a, o, b, hc⟩
    rw [dk_len, List.take_of_length_le (Nat.le_refl _)] at b hc
    exact ⟨sm _ _ upd_same, q D a o _ (unlock (h.all .bh trivial) sm) (b.fin (h.all .bh trivial) hD) hc⟩
end
end Rp
set_option autoImplicit true
set_option Elab.async false
set_option linter.all false
set_option maxRecDepth 100000
set_option maxHeartbeats 8000000
namespace Rp
open PySem PySem.Spec PyProof.Rows L2 Cm Ob Tx
/-- in which order a copy's parts are made -/
def st : Role → Nat
  | .tab => 0 | .kn => 1 | .mt _ => 1 | .pl => 2 | .pc _ => 2 | .tp => 3 | .ow => 4 | .ms => 5 | .mb => 6 | .me _ => 6 | .bh => 7 | .be _ => 7 | .ct => 8
/-- the parts of a copy made so far -/
structure PAt (CT CM : Addr) (H0 H : Hp) (x : Addr) (d : Ad) (t : Tb) (i : Nat) : Prop where
  all : ∀ r, live t r → 0 < st r → st r < i → H (d.a r) = some (ob CT CM d t r)
  new : ∀ r, live t r → 0 < st r → st r < i → H0 (d.a r) = none ∧ d.a r ≠ x
  inj : ∀ r r', live t r → live t r' → 0 < st r → 0 < st r' → st r < i → st r' < i → d.a r = d.a r' → r = r'
theorem ob_agree {CT CM : Addr} {d d' : Ad} {t : Tb} {r : Role} (h0 : 0 < st r) (ha : ∀ r', st r' = st r → d'.a r' = d.a r') (hd : st r = 1 → d'.dm = d.dm) : ob CT CM d' t r = ob CT CM d t r := by
  cases r with
  | tab => cases h0
  | kn => exact congrArg HO.dK (dk_cong fun n _ => by rw [ha (.mt n) rfl])
  | pl => exact congrArg HO.dK (dk_cong fun n _ => by rw [ha (.pc n) rfl])
  | mb => exact congrArg HO.dK (dk_cong fun n _ => by rw [ha (.me n) rfl])
  | bh => exact congrArg HO.dK (dk_cong fun n _ => by rw [ha (.be n) rfl])
  | mt n =>
    show HO.ins CM (d'.dm n) _ = HO.ins CM (d.dm n) _
    rw [hd rfl]
  | _ => rfl
theorem PAt.step {CT CM : Addr} {H0 H H' : Hp} {x : Addr} {d d' : Ad} {t : Tb} {i : Nat} {ox : HO} (p : PAt CT CM H0 H x d t i) (hi : 0 < i) (hx : H x = some ox) (s0 : ∀ b o, H0 b = some o → b ≠ x → H b = some o) (x0 : H0 x = none) (ag : ∀ r, st r ≠ i → d'.a r = d.a r) (dm : i ≠ 1 → d'.dm = d.dm) (b : But x H H') (new : ∀ r, live t r → st r = i → H (d'.a r) = none ∧ H' (d'.a r) = some (ob CT CM d' t r)) (inj : ∀ r r', live t r → live t r' → st r = i → st r' = i → d'.a r = d'.a r' → r = r') : PAt CT CM H0 H' x d' t (i + 1) := by
  have old : ∀ r, live t r → 0 < st r → st r < i → H (d'.a r) = some (ob CT CM d' t r) ∧ d'.a r = d.a r := fun r l h0 h => by
    have e := ag r (Nat.ne_of_lt h)
    refine ⟨?_, e⟩
    rw [e, ob_agree h0 (fun r' hr => ag r' (by rw [hr]; exact Nat.ne_of_lt h)) (fun h1 => dm (by omega))]
    exact p.all r l h0 h
  have nx : ∀ r, live t r → st r = i → H0 (d'.a r) = none ∧ d'.a r ≠ x := fun r l h => by
    have hn := (new r l h).1
    have ne : d'.a r ≠ x := fun e => by
      rw [e, hx] at hn
      cases hn
    refine ⟨?_, ne⟩
    cases e : H0 (d'.a r) with
    | none => rfl
    | some o =>
      rw [s0 _ _ e ne] at hn
      cases hn
  refine ⟨fun r l h0 h => ?_, fun r l h0 h => ?_, fun r r' l l' h0 h0' h h' e => ?_⟩
  · by_cases hr : st r = i
    · exact (new r l hr).2
    · have hlt : st r < i := by omega
      obtain ⟨a1, a2⟩ := old r l h0 hlt
      refine b _ _ ?_ a1
      rw [a2]
      exact (p.new r l h0 hlt).2
  · by_cases hr : st r = i
    · exact nx r l hr
    · have hlt : st r < i := by omega
      rw [(old r l h0 hlt).2]
      exact p.new r l h0 hlt
  · by_cases hr : st r = i
    · by_cases hr' : st r' = i
      · exact inj r r' l l' hr hr' e
      · have hlt : st r' < i := by omega
        have a1 := (old r' l' h0' hlt).1
        rw [← e, (new r l hr).1] at a1
        cases a1
    · have hlt : st r < i := by omega
      by_cases hr' : st r' = i
      · have a1 := (old r l h0 hlt).1
        rw [e, (new r' l' hr').1] at a1
        cases a1
      · have hlt' : st r' < i := by omega
        rw [(old r l h0 hlt).2, (old r' l' h0' hlt').2] at e
        exact p.inj r r' l l' h0 h0' hlt hlt' e
theorem PAt.xupd {CT CM : Addr} {H0 H : Hp} {x : Addr} {d : Ad} {t : Tb} {i : Nat} {o : HO} (p : PAt CT CM H0 H x d t i) : PAt CT CM H0 (upd H x o) x d t i := ⟨fun r l h0 h => by rw [upd_ne (p.new r l h0 h).2]; exact p.all r l h0 h, p.new, p.inj⟩
theorem PAt.done {CT CM : Addr} {H0 H : Hp} {x : Addr} {d : Ad} {t : Tb} (p : PAt CT CM H0 H x d t 9) (hx : H x = some (ob CT CM (d.put .tab x) t .tab)) (x0 : H0 x = none) : TabAt CT CM H (d.put .tab x) t ∧ ∀ r, live t r → H0 ((d.put .tab x).a r) = none := by
  have h9 : ∀ r, st r < 9 := fun r => by cases r <;> simp [st]
  have hp : ∀ r, r ≠ .tab → 0 < st r := fun r h => by cases r <;> first | exact absurd rfl h | simp [st]
  have ha : ∀ r, r ≠ .tab → (d.put .tab x).a r = d.a r := fun r h => Ad.put_ne h
  have ht : (d.put .tab x).a .tab = x := Ad.put_same
  refine ⟨⟨fun r l => ?_, fun r r' l l' e => ?_⟩, fun r l => ?_⟩
  · by_cases h : r = .tab
    · subst h
      rw [ht]
      exact hx
    · rw [ha r h, p.all r l (hp r h) (h9 r)]
      refine congrArg some (ob_agree (hp r h) (fun r' hr => ha r' fun e => ?_) fun _ => rfl).symm
      rw [e] at hr
      have := hp r h
      rw [← hr] at this
      cases this
  · by_cases h : r = .tab
    · by_cases h' : r' = .tab
      · rw [h, h']
      · rw [h, ht, ha r' h'] at e
        exact absurd e.symm (p.new r' l' (hp r' h') (h9 r')).2
    · by_cases h' : r' = .tab
      · rw [h', ht, ha r h] at e
        exact absurd e (p.new r l (hp r h) (h9 r)).2
      · rw [ha r h, ha r' h'] at e
        exact p.inj r r' l l' (hp r h) (hp r' h') (h9 r) (h9 r') e
  · by_cases h : r = .tab
    · rw [h, ht]
      exact x0
    · rw [ha r h]
      exact (p.new r l (hp r h) (h9 r)).1
end Rp
set_option autoImplicit true
set_option Elab.async false
set_option linter.all false
set_option maxRecDepth 100000
set_option maxHeartbeats 8000000
namespace Rp
open PySem PySem.Spec PyProof.Rows L2 Cm Ob Tx
theorem PAt.same {CT CM : Addr} {H0 H H' : Hp} {x : Addr} {d : Ad} {t : Tb} {i : Nat} (p : PAt CT CM H0 H x d t i) (s : Same H H') : PAt CT CM H0 H' x d t i := ⟨fun r l h0 h => s _ _ (p.all r l h0 h), p.new, p.inj⟩
section
variable {CT CM : Addr} {H0 H H1 : Hp} {x D : Addr} {d : Ad} {t : Tb} {ox : HO} {a : Int → Addr} {o : Int → HO}
theorem PAt.one {r0 : Role} {q : Addr} {u : HO} {i : Nat} (p : PAt CT CM H0 H x d t i) (hi : st r0 = i) (h0 : 0 < i) (hr : ∀ r, st r = i → r = r0) (h1 : i ≠ 1) (hx : H x = some ox) (sm : Same H0 H) (x0 : H0 x = none) (np : H q = none) (ok : ob CT CM (d.put r0 q) t r0 = u) : PAt CT CM H0 (upd H q u) x (d.put r0 q) t (i + 1) := by
  refine p.step h0 hx (fun b o h _ => sm b o h) x0 (fun r h => Ad.put_ne fun e => h (by rw [e]; exact hi)) (fun _ => rfl) (Same.but x (same_new np)) (fun r _ h => ?_) (fun r r' _ _ h h' _ => by rw [hr r h, hr r' h'])
  rw [hr r h, Ad.put_same, upd_same, ok]
  exact ⟨np, rfl⟩
theorem PAt.blk1 (p : PAt CT CM H0 H x d t 1) (hx : H x = some ox) (sm : Same H0 H) (x0 : H0 x = none) (s1 : Same H H1) (b : Blk H H1 D t.kn a o) (ho : ∀ n ∈ t.kn, ∃ dm, o n = .ins CM dm (mnF n (t.mn n))) (u : HO) : ∃ d' : Ad, (∀ r, st r ≠ 1 → d'.a r = d.a r) ∧ d'.dT = d.dT ∧ d'.a .kn = D ∧ PAt CT CM H0 (upd H1 x u) x d' t 2 := by
  have nD : D ≠ x := fun e => by
    have := b.nD
    rw [e, hx] at this
    cases this
  have nA : ∀ n ∈ t.kn, a n ≠ x := fun n hn e => by
    have := b.nA n hn
    rw [e, hx] at this
    cases this
  refine ⟨⟨fun r => match r with | .kn => D | .mt n => a n | r => d.a r, d.dT, fun n => if h : n ∈ t.kn then (ho n h).choose else 0⟩, fun r h => ?_, rfl, rfl, p.step (by decide) hx (fun b o h _ => sm b o h) x0 (fun r h => ?_) (fun h => ?_) ((Same.but x s1).trans But.upd) (fun r l h => ?_) (fun r r' l l' h h' e => ?_)⟩
  · cases r with
    | kn => exact absurd rfl h
    | mt n => exact absurd rfl h
    | _ => rfl
  · cases r with
    | kn => exact absurd rfl h
    | mt n => exact absurd rfl h
    | _ => rfl
  · first | rfl | exact absurd rfl h
  · cases r with
    | kn =>
      refine ⟨b.nD, ?_⟩
      show upd H1 x u D = _
      rw [upd_ne nD, b.hD]
      rfl
    | mt n =>
      refine ⟨b.nA n l, ?_⟩
      show upd H1 x u (a n) = _
      rw [upd_ne (nA n l), b.hA n l]
      show some (o n) = some (HO.ins CM (if h : n ∈ t.kn then (ho n h).choose else 0) (mnF n (t.mn n)))
      have hl : n ∈ t.kn := l
      rw [dif_pos hl, ← (ho n hl).choose_spec]
    | _ => exact absurd h (by simp [st])
  · cases r with
    | kn =>
      cases r' with
      | kn => rfl
      | mt k => exact absurd (show D = a k from e).symm (b.ne k l')
      | _ => exact absurd h' (by simp [st])
    | mt n =>
      cases r' with
      | kn => exact absurd (show a n = D from e) (b.ne n l)
      | mt k => rw [b.inj n l k l' (show a n = a k from e)]
      | _ => exact absurd h' (by simp [st])
    | _ => exact absurd h (by simp [st])
theorem PAt.blk2 (p : PAt CT CM H0 H x d t 2) (hx : H x = some ox) (sm : Same H0 H) (x0 : H0 x = none) (s1 : Same H H1) (b : Blk H H1 D t.kp a o) (ho : ∀ n ∈ t.kp, o n = .dT (t.pc n)) (u : HO) : ∃ d' : Ad, (∀ r, st r ≠ 2 → d'.a r = d.a r) ∧ d'.dT = d.dT ∧ d'.a .pl = D ∧ PAt CT CM H0 (upd H1 x u) x d' t 3 := by
  have nD : D ≠ x := fun e => by
    have := b.nD
    rw [e, hx] at this
    cases this
  have nA : ∀ n ∈ t.kp, a n ≠ x := fun n hn e => by
    have := b.nA n hn
    rw [e, hx] at this
    cases this
  refine ⟨⟨fun r => match r with | .pl => D | .pc n => a n | r => d.a r, d.dT, d.dm⟩, fun r h => ?_, rfl, rfl, p.step (by decide) hx (fun b o h _ => sm b o h) x0 (fun r h => ?_) (fun h => ?_) ((Same.but x s1).trans But.upd) (fun r l h => ?_) (fun r r' l l' h h' e => ?_)⟩
  · cases r with
    | pl => exact absurd rfl h
    | pc n => exact absurd rfl h
    | _ => rfl
  · cases r with
    | pl => exact absurd rfl h
    | pc n => exact absurd rfl h
    | _ => rfl
  · first | rfl | exact absurd rfl h
  · cases r with
    | pl =>
      refine ⟨b.nD, ?_⟩
      show upd H1 x u D = _
      rw [upd_ne nD, b.hD]
      rfl
    | pc n =>
      refine ⟨b.nA n l, ?_⟩
      show upd H1 x u (a n) = _
      rw [upd_ne (nA n l), b.hA n l]
      show some (o n) = some (HO.dT (t.pc n))
      rw [ho n l]
    | _ => exact absurd h (by simp [st])
  · cases r with
    | pl =>
      cases r' with
      | pl => rfl
      | pc k => exact absurd (show D = a k from e).symm (b.ne k l')
      | _ => exact absurd h' (by simp [st])
    | pc n =>
      cases r' with
      | pl => exact absurd (show a n = D from e) (b.ne n l)
      | pc k => rw [b.inj n l k l' (show a n = a k from e)]
      | _ => exact absurd h' (by simp [st])
    | _ => exact absurd h (by simp [st])
theorem PAt.blk6 (p : PAt CT CM H0 H x d t 6) (hx : H x = some ox) (sm : Same H0 H) (x0 : H0 x = none) (s1 : Same H H1) (b : Blk H H1 D t.gb a o) (ho : ∀ n ∈ t.gb, o n = set1 (t.me n)) (u : HO) : ∃ d' : Ad, (∀ r, st r ≠ 6 → d'.a r = d.a r) ∧ d'.dT = d.dT ∧ d'.a .mb = D ∧ PAt CT CM H0 (upd H1 x u) x d' t 7 := by
  have nD : D ≠ x := fun e => by
    have := b.nD
    rw [e, hx] at this
    cases this
  have nA : ∀ n ∈ t.gb, a n ≠ x := fun n hn e => by
    have := b.nA n hn
    rw [e, hx] at this
    cases this
  refine ⟨⟨fun r => match r with | .mb => D | .me n => a n | r => d.a r, d.dT, d.dm⟩, fun r h => ?_, rfl, rfl, p.step (by decide) hx (fun b o h _ => sm b o h) x0 (fun r h => ?_) (fun h => ?_) ((Same.but x s1).trans But.upd) (fun r l h => ?_) (fun r r' l l' h h' e => ?_)⟩
  · cases r with
    | mb => exact absurd rfl h
    | me n => exact absurd rfl h
    | _ => rfl
  · cases r with
    | mb => exact absurd rfl h
    | me n => exact absurd rfl h
    | _ => rfl
  · first | rfl | exact absurd rfl h
  · cases r with
    | mb =>
      refine ⟨b.nD, ?_⟩
      show upd H1 x u D = _
      rw [upd_ne nD, b.hD]
      rfl
    | me n =>
      refine ⟨b.nA n l, ?_⟩
      show upd H1 x u (a n) = _
      rw [upd_ne (nA n l), b.hA n l]
      show some (o n) = some (set1 (t.me n))
      rw [ho n l]
    | _ => exact absurd h (by simp [st])
  · cases r with
    | mb =>
      cases r' with
      | mb => rfl
      | me k => exact absurd (show D = a k from e).symm (b.ne k l')
      | _ => exact absurd h' (by simp [st])
    | me n =>
      cases r' with
      | mb => exact absurd (show a n = D from e) (b.ne n l)
      | me k => rw [b.inj n l k l' (show a n = a k from e)]
      | _ => exact absurd h' (by simp [st])
    | _ => exact absurd h (by simp [st])
theorem PAt.blk7 (p : PAt CT CM H0 H x d t 7) (hx : H x = some ox) (sm : Same H0 H) (x0 : H0 x = none) (s1 : Same H H1) (b : Blk H H1 D t.gh a o) (ho : ∀ n ∈ t.gh, o n = set1 (t.be n)) (u : HO) : ∃ d' : Ad, (∀ r, st r ≠ 7 → d'.a r = d.a r) ∧ d'.dT = d.dT ∧ d'.a .bh = D ∧ PAt CT CM H0 (upd H1 x u) x d' t 8 := by
  have nD : D ≠ x := fun e => by
    have := b.nD
    rw [e, hx] at this
    cases this
  have nA : ∀ n ∈ t.gh, a n ≠ x := fun n hn e => by
    have := b.nA n hn
    rw [e, hx] at this
    cases this
  refine ⟨⟨fun r => match r with | .bh => D | .be n => a n | r => d.a r, d.dT, d.dm⟩, fun r h => ?_, rfl, rfl, p.step (by decide) hx (fun b o h _ => sm b o h) x0 (fun r h => ?_) (fun h => ?_) ((Same.but x s1).trans But.upd) (fun r l h => ?_) (fun r r' l l' h h' e => ?_)⟩
  · cases r with
    | bh => exact absurd rfl h
    | be n => exact absurd rfl h
    | _ => rfl
  · cases r with
    | bh => exact absurd rfl h
    | be n => exact absurd rfl h
    | _ => rfl
  · first | rfl | exact absurd rfl h
  · cases r with
    | bh =>
      refine ⟨b.nD, ?_⟩
      show upd H1 x u D = _
      rw [upd_ne nD, b.hD]
      rfl
    | be n =>
      refine ⟨b.nA n l, ?_⟩
      show upd H1 x u (a n) = _
      rw [upd_ne (nA n l), b.hA n l]
      show some (o n) = some (set1 (t.be n))
      rw [ho n l]
    | _ => exact absurd h (by simp [st])
  · cases r with
    | bh =>
      cases r' with
      | bh => rfl
      | be k => exact absurd (show D = a k from e).symm (b.ne k l')
      | _ => exact absurd h' (by simp [st])
    | be n =>
      cases r' with
      | bh => exact absurd (show a n = D from e) (b.ne n l)
      | be k => rw [b.inj n l k l' (show a n = a k from e)]
      | _ => exact absurd h' (by simp [st])
    | _ => exact absurd h (by simp [st])
end
/-- the copy so far -/
structure CS (H0 : Hp) (CT CM : Addr) (t : Tb) (n : Nat) (H : Hp) (x dx : Addr) (d : Ad) (v1 v2 v3 v4 v5 v6 v7 v8 : V) : Prop where
  hx : H x = some (.ins CT dx (tbF t.tr (.int t.most) v1 v2 v3 v4 v5 v6 v7 v8))
  sm : Same H0 H
  n0 : H0 x = none
  hd : d.dT = dx
  p : PAt CT CM H0 H x d t n
  e1 : 1 < n → v1 = .ref (d.a .kn)
  e2 : 2 < n → v2 = .ref (d.a .pl)
  e3 : 3 < n → v3 = .ref (d.a .tp)
  e4 : 4 < n → v4 = .ref (d.a .ow)
  e5 : 5 < n → v5 = .ref (d.a .ms)
  e6 : 6 < n → v6 = .ref (d.a .mb)
  e7 : 7 < n → v7 = .ref (d.a .bh)
  e8 : 8 < n → v8 = .ref (d.a .ct)
def CSs (H0 : Hp) (CT CM T : Addr) (t : Tb) (n : Nat) : L2.St → Hp → Prop := fun σ H => ∃ x dx d v1 v2 v3 v4 v5 v6 v7 v8, σ = [some (.ref T), some (.ref x), none, none, none, none] ∧ CS H0 CT CM t n H x dx d v1 v2 v3 v4 v5 v6 v7 v8
structure Rd (CT CM : Addr) (H : Hp) (d : Ad) (t : Tb) (B : Nat) : Prop where
  at_ : TabAt CT CM H d t
  sz : Sz B t
  kn : t.kn.Nodup
  kp : t.kp.Nodup
  gb : t.gb.Nodup
  gh : t.gh.Nodup
  pe : ∀ n ∈ t.kp, t.pc n = []
theorem Rd.same {CT CM : Addr} {H H' : Hp} {d : Ad} {t : Tb} {B : Nat} (h : Rd CT CM H d t B) (s : Same H H') : Rd CT CM H' d t B := ⟨h.at_.same s, h.sz, h.kn, h.kp, h.gb, h.gh, h.pe⟩
section
variable {P : Program} {w : World} {K : PySem.W.Frag} {mg : Str → Option Value} {base : Heap} {f : Addr} {cdv : Value} {A : Around} {outer : List Env} {s : Shared} {H0 : Hp} {E : XK} {CM CT : Addr} {d0 : Ad} {t : Tb} {B : Nat}
theorem hC0 (c : Cn K CT tbN) (gT : mg "Table" = some (.ref CT)) (MkT : ∃ f fd, Mk K CT f ∧ FnOk P w K mg base CX0 1 f fd ["self", "trees", "most"] (spTbI CT) ∧ Binds K fd ["self", "trees", "most"] []) (R : Rd CT CM H0 d0 t B) (hr : Room 2 (XTC P w K mg base f cdv A outer s H0 E).A) :
    Ho (XTC P w K mg base f cdv A outer s H0 E) (stTC 0) (fun σ H => σ = [some (.ref (d0.a .tab)), none, none, none, none, none] ∧ H = H0) (CSs H0 CT CM (d0.a .tab) t 1) := by
  obtain ⟨fI, fdI, MK, FI, bI⟩ := MkT
  refine ⟨_, ps_set (i := 1) scTbC.nd rfl (.inl rfl) (pe_make MK FI hr (by rfl) gT bI .nil pass0 (pa_cons (pe_fld (pv 0) rfl) (pa_cons (pe_fld (pv 0) rfl) pa_nil))), ?_⟩
  rintro D σ H ⟨rfl, rfl⟩ q
  have hT := R.at_.all .tab trivial
  refine ⟨_, rfl, d0.a .tab, CT, d0.dT, _, t.tr, rfl, hT, c.cl, c.no _ (by decide +kernel), rfl, _, rfl, d0.a .tab, CT, d0.dT, _, .int t.most, rfl, hT, c.cl, c.no _ (by decide +kernel), rfl, fun T' dT' hT' hd' ne => ?_⟩
  refine ⟨T', dT', t.tr, .int t.most, rfl, upd_same, fun H1 ds ct hk b1 hT1 hd1 nd _ _ _ hct => ⟨rfl, q _ _ ?_⟩⟩
  match ds, hk with
  | [e0, e1, e2, e3, e4, e5, e6], _ =>
    refine ⟨T', dT', ⟨fun _ => 0, dT', fun _ => 0⟩, .ref e0, .ref e1, .ref e2, .ref e3, .ref e4, .ref e5, .ref e6, .ref ct, rfl, ⟨hT1, ?_, hT', rfl, ⟨?_, ?_, ?_⟩, ?_, ?_, ?_, ?_, ?_, ?_, ?_, ?_⟩⟩
    · intro e o h
      refine b1 e o (ne_of_none h hT') ?_
      rw [upd_ne (ne_of_none h hT'), upd_ne (ne_of_none h hd')]
      exact h
    · intro r _ h h'
      omega
    · intro r _ h h'
      omega
    · intro r r' _ _ h _ h'
      omega
    all_goals (intro h; exact absurd h (by decide))
theorem hC1 (c : Cn K CT tbN) (Mc : MT P w K mg base 3 CM "copied" ["self"] (spMtC CM)) (hr : Room 3 (XTC P w K mg base f cdv A outer s H0 E).A) (cM : Cn K CM mtN) (R : Rd CT CM H0 d0 t B) : Ho (XTC P w K mg base f cdv A outer s H0 E) (stTC 1) (CSs H0 CT CM (d0.a .tab) t 1) (CSs H0 CT CM (d0.a .tab) t 2) := by
  refine ⟨_, ps_fld (pv 1) (pe_ck c cM Mc hr) rfl, ?_⟩
  rintro D0 σ H ⟨x, dx, d, v1, v2, v3, v4, v5, v6, v7, v8, rfl, C⟩ q
  have R1 := R.same C.sm
  refine ⟨d0, t, B, ⟨_, rfl⟩, R1.at_, R1.sz, R1.kn, fun D a o H1 s1 bk ho => ?_⟩
  have hT1 := s1 _ _ C.hx
  obtain ⟨d', ag, hdT, hD, p'⟩ := C.p.blk1 C.hx C.sm C.n0 s1 bk ho (.ins CT dx (tbF t.tr (.int t.most) (.ref D) v2 v3 v4 v5 v6 v7 v8))
  refine ⟨_, rfl, x, CT, dx, _, rfl, hT1, c.cl, c.no _ (by decide +kernel), by show 10 < 1000; decide, q _ _ ⟨x, dx, d', .ref D, v2, v3, v4, v5, v6, v7, v8, rfl, ⟨upd_same, same_mut C.n0 (C.sm.trans s1), C.n0, hdT.trans C.hd, p', fun _ => by rw [hD], fun h => absurd h (by decide), fun h => absurd h (by decide), fun h => absurd h (by decide), fun h => absurd h (by decide), fun h => absurd h (by decide), fun h => absurd h (by decide), fun h => absurd h (by decide)⟩⟩⟩
theorem hC2 (c : Cn K CT tbN) (B' : Bi mg) (R : Rd CT CM H0 d0 t B) : Ho (XTC P w K mg base f cdv A outer s H0 E) (stTC 2) (CSs H0 CT CM (d0.a .tab) t 2) (CSs H0 CT CM (d0.a .tab) t 3) := by
  refine ⟨_, ps_fld (pv 1) (pe_cp (CM := CM) c B') rfl, ?_⟩
  rintro D0 σ H ⟨x, dx, d, v1, v2, v3, v4, v5, v6, v7, v8, rfl, C⟩ q
  have R1 := R.same C.sm
  refine ⟨d0, t, B, ⟨_, rfl⟩, R1.at_, R1.sz, R1.kp, R1.pe, fun D a o H1 s1 bk ho => ?_⟩
  have hT1 := s1 _ _ C.hx
  obtain ⟨d', ag, hdT, hD, p'⟩ := C.p.blk2 C.hx C.sm C.n0 s1 bk ho (.ins CT dx (tbF t.tr (.int t.most) v1 (.ref D) v3 v4 v5 v6 v7 v8))
  refine ⟨_, rfl, x, CT, dx, _, rfl, hT1, c.cl, c.no _ (by decide +kernel), by show 10 < 1000; decide, q _ _ ⟨x, dx, d', v1, .ref D, v3, v4, v5, v6, v7, v8, rfl, ⟨upd_same, same_mut C.n0 (C.sm.trans s1), C.n0, hdT.trans C.hd, p', fun _ => by rw [ag _ (by decide)]; exact C.e1 (by decide), fun _ => by rw [hD], fun h => absurd h (by decide), fun h => absurd h (by decide), fun h => absurd h (by decide), fun h => absurd h (by decide), fun h => absurd h (by decide), fun h => absurd h (by decide)⟩⟩⟩
theorem hC4 (c : Cn K CT tbN) (B' : Bi mg) (R : Rd CT CM H0 d0 t B) : Ho (XTC P w K mg base f cdv A outer s H0 E) (stTC 4) (CSs H0 CT CM (d0.a .tab) t 6) (CSs H0 CT CM (d0.a .tab) t 7) := by
  refine ⟨_, ps_fld (pv 1) (pe_cm (CM := CM) c B') rfl, ?_⟩
  rintro D0 σ H ⟨x, dx, d, v1, v2, v3, v4, v5, v6, v7, v8, rfl, C⟩ q
  have R1 := R.same C.sm
  refine ⟨d0, t, B, ⟨_, rfl⟩, R1.at_, R1.sz, R1.gb, fun D a o H1 s1 bk ho => ?_⟩
  have hT1 := s1 _ _ C.hx
  obtain ⟨d', ag, hdT, hD, p'⟩ := C.p.blk6 C.hx C.sm C.n0 s1 bk ho (.ins CT dx (tbF t.tr (.int t.most) v1 v2 v3 v4 v5 (.ref D) v7 v8))
  refine ⟨_, rfl, x, CT, dx, _, rfl, hT1, c.cl, c.no _ (by decide +kernel), by show 10 < 1000; decide, q _ _ ⟨x, dx, d', v1, v2, v3, v4, v5, .ref D, v7, v8, rfl, ⟨upd_same, same_mut C.n0 (C.sm.trans s1), C.n0, hdT.trans C.hd, p', fun _ => by rw [ag _ (by decide)]; exact C.e1 (by decide), fun _ => by rw [ag _ (by decide)]; exact C.e2 (by decide), fun _ => by rw [ag _ (by decide)]; exact C.e3 (by decide), fun _ => by rw [ag _ (by decide)]; exact C.e4 (by decide), fun _ => by rw [ag _ (by decide)]; exact C.e5 (by decide), fun _ => by rw [hD], fun h => absurd h (by decide), fun h => absurd h (by decide)⟩⟩⟩
theorem hC5 (c : Cn K CT tbN) (B' : Bi mg) (R : Rd CT CM H0 d0 t B) : Ho (XTC P w K mg base f cdv A outer s H0 E) (stTC 5) (CSs H0 CT CM (d0.a .tab) t 7) (CSs H0 CT CM (d0.a .tab) t 8) := by
  refine ⟨_, ps_fld (pv 1) (pe_cb (CM := CM) c B') rfl, ?_⟩
  rintro D0 σ H ⟨x, dx, d, v1, v2, v3, v4, v5, v6, v7, v8, rfl, C⟩ q
  have R1 := R.same C.sm
  refine ⟨d0, t, B, ⟨_, rfl⟩, R1.at_, R1.sz, R1.gh, fun D a o H1 s1 bk ho => ?_⟩
  have hT1 := s1 _ _ C.hx
  obtain ⟨d', ag, hdT, hD, p'⟩ := C.p.blk7 C.hx C.sm C.n0 s1 bk ho (.ins CT dx (tbF t.tr (.int t.most) v1 v2 v3 v4 v5 v6 (.ref D) v8))
  refine ⟨_, rfl, x, CT, dx, _, rfl, hT1, c.cl, c.no _ (by decide +kernel), by show 10 < 1000; decide, q _ _ ⟨x, dx, d', v1, v2, v3, v4, v5, v6, .ref D, v8, rfl, ⟨upd_same, same_mut C.n0 (C.sm.trans s1), C.n0, hdT.trans C.hd, p', fun _ => by rw [ag _ (by decide)]; exact C.e1 (by decide), fun _ => by rw [ag _ (by decide)]; exact C.e2 (by decide), fun _ => by rw [ag _ (by decide)]; exact C.e3 (by decide), fun _ => by rw [ag _ (by decide)]; exact C.e4 (by decide), fun _ => by rw [ag _ (by decide)]; exact C.e5 (by decide), fun _ => by rw [ag _ (by decide)]; exact C.e6 (by decide), fun _ => by rw [hD], fun h => absurd h (by decide)⟩⟩⟩
theorem hC3 (c : Cn K CT tbN) (B' : Bi mg) (R : Rd CT CM H0 d0 t B) : Ho (XTC P w K mg base f cdv A outer s H0 E) (stTC 3) (CSs H0 CT CM (d0.a .tab) t 3) (CSs H0 CT CM (d0.a .tab) t 6) := by
  refine ⟨_, ps_asg (pe_tup (pa_cons (pe_callTy call_dictD (by rfl) B'.dict (by decide +kernel) (pa_cons (pe_fld (pv 0) rfl) pa_nil)) (pa_cons (pe_callTy call_dictD (by rfl) B'.dict (by decide +kernel) (pa_cons (pe_fld (pv 0) rfl) pa_nil)) (pa_cons (pe_callTy call_dictD (by rfl) B'.dict (by decide +kernel) (pa_cons (pe_fld (pv 0) rfl) pa_nil)) pa_nil)))) (pg_tup rfl (pgs_cons (pg_fld (pv 1)) (pgs_cons (pg_fld (pv 1)) (pgs_cons (pg_fld (pv 1)) pgs_nil)))), ?_⟩
  rintro D0 σ H ⟨x, dx, d, v1, v2, v3, v4, v5, v6, v7, v8, rfl, C⟩ q
  have R0 := R.at_.same C.sm
  refine ⟨_, rfl, d0.a .tab, CT, d0.dT, _, .ref (d0.a .tp), rfl, R0.all .tab trivial, c.cl, c.no _ (by decide +kernel), rfl, d0.a .tp, _, rfl, .inl (R0.all .tp trivial), fun p1 h1 => ?_⟩
  have s1 := same_new (o := HO.dK (dk t.ts fun n => .int (t.tp n))) h1
  have R1 := R0.same s1
  have q1 := C.p.one (r0 := .tp) (u := HO.dK (dk t.ts fun n => .int (t.tp n))) rfl (by decide) (fun r h => by cases r <;> first | rfl | exact absurd h (by simp [st])) (by decide) C.hx C.sm C.n0 h1 rfl
  refine ⟨_, rfl, d0.a .tab, CT, d0.dT, _, .ref (d0.a .ow), rfl, R1.all .tab trivial, c.cl, c.no _ (by decide +kernel), rfl, d0.a .ow, _, rfl, .inl (R1.all .ow trivial), fun p2 h2 => ?_⟩
  have s2 := same_new (o := HO.dK (dk t.os fun n => .int (t.ow n))) h2
  have R2 := R1.same s2
  have q2 := q1.one (r0 := .ow) (u := HO.dK (dk t.os fun n => .int (t.ow n))) rfl (by decide) (fun r h => by cases r <;> first | rfl | exact absurd h (by simp [st])) (by decide) (s1 _ _ C.hx) (C.sm.trans s1) C.n0 h2 rfl
  refine ⟨_, rfl, d0.a .tab, CT, d0.dT, _, .ref (d0.a .ms), rfl, R2.all .tab trivial, c.cl, c.no _ (by decide +kernel), rfl, d0.a .ms, _, rfl, .inl (R2.all .ms trivial), fun p3 h3 => ?_⟩
  have s3 := same_new (o := HO.dK (dk t.gm fun g => oi (t.ms g))) h3
  have q3 := q2.one (r0 := .ms) (u := HO.dK (dk t.gm fun g => oi (t.ms g))) rfl (by decide) (fun r h => by cases r <;> first | rfl | exact absurd h (by simp [st])) (by decide) (s2 _ _ (s1 _ _ C.hx)) ((C.sm.trans s1).trans s2) C.n0 h3 rfl
  refine ⟨by show 3 ≤ sizeLine; decide, fun p hp => ?_⟩
  have s4 := same_new (o := HO.tup [V.ref p1, .ref p2, .ref p3]) hp
  have q4 : PAt CT CM H0 (upd (upd (upd (upd H p1 (HO.dK (dk t.ts fun n => .int (t.tp n)))) p2 (HO.dK (dk t.os fun n => .int (t.ow n)))) p3 (HO.dK (dk t.gm fun g => oi (t.ms g)))) p (HO.tup [V.ref p1, .ref p2, .ref p3])) x (((d.put .tp p1).put .ow p2).put .ms p3) t 6 := q3.same s4
  have s14 := (s1.trans s2).trans (s3.trans s4)
  generalize hH4 : upd (upd (upd (upd H p1 (HO.dK (dk t.ts fun n => .int (t.tp n)))) p2 (HO.dK (dk t.os fun n => .int (t.ow n)))) p3 (HO.dK (dk t.gm fun g => oi (t.ms g)))) p (HO.tup [V.ref p1, .ref p2, .ref p3]) = H4 at *
  have hp4 : H4 p = some (HO.tup [V.ref p1, .ref p2, .ref p3]) := by rw [← hH4]; exact upd_same
  have hT4 := s14 _ _ C.hx
  refine ⟨p, _, rfl, SqT.of hp4, rfl, _, _, rfl, _, rfl, x, CT, dx, _, rfl, hT4, c.cl, c.no _ (by decide +kernel), by show 10 < 1000; decide, _, _, rfl, _, rfl, x, CT, dx, _, rfl, upd_same, c.cl, c.no _ (by decide +kernel), by show 10 < 1000; decide, _, _, rfl, _, rfl, x, CT, dx, _, rfl, upd_same, c.cl, c.no _ (by decide +kernel), by show 10 < 1000; decide, rfl, q _ _ ⟨x, dx, _, v1, v2, .ref p1, .ref p2, .ref p3, v6, v7, v8, rfl, ⟨upd_same, same_mut C.n0 (same_mut C.n0 (same_mut C.n0 (C.sm.trans s14))), C.n0, ?_, q4.xupd.xupd.xupd, fun _ => C.e1 (by decide), fun _ => C.e2 (by decide), fun _ => rfl, fun _ => rfl, fun _ => rfl, fun h => absurd h (by decide), fun h => absurd h (by decide), fun h => absurd h (by decide)⟩⟩⟩
  exact C.hd
theorem hC6 (c : Cn K CT tbN) (B' : Bi mg) (R : Rd CT CM H0 d0 t B) : Ho (XTC P w K mg base f cdv A outer s H0 E) (stTC 6) (CSs H0 CT CM (d0.a .tab) t 8) (CSs H0 CT CM (d0.a .tab) t 9) := by
  refine ⟨_, ps_fld (pv 1) (pe_callTy call_dictD (by rfl) B'.dict (by decide +kernel) (pa_cons (pe_fld (pv 0) rfl) pa_nil)) rfl, ?_⟩
  rintro D0 σ H ⟨x, dx, d, v1, v2, v3, v4, v5, v6, v7, v8, rfl, C⟩ q
  have R0 := R.at_.same C.sm
  refine ⟨_, rfl, d0.a .tab, CT, d0.dT, _, .ref (d0.a .ct), rfl, R0.all .tab trivial, c.cl, c.no _ (by decide +kernel), rfl, d0.a .ct, _, rfl, .inl (R0.all .ct trivial), fun D hD => ?_⟩
  have s1 := same_new (o := HO.dK (cnt t.cm t.cg t.cs)) hD
  have q1 := C.p.one (r0 := .ct) (u := HO.dK (cnt t.cm t.cg t.cs)) rfl (by decide) (fun r h => by cases r <;> first | rfl | exact absurd h (by simp [st])) (by decide) C.hx C.sm C.n0 hD rfl
  refine ⟨_, rfl, x, CT, dx, _, rfl, s1 _ _ C.hx, c.cl, c.no _ (by decide +kernel), by show 10 < 1000; decide, q _ _ ⟨x, dx, d.put .ct D, v1, v2, v3, v4, v5, v6, v7, .ref D, rfl, ⟨upd_same, same_mut C.n0 (C.sm.trans s1), C.n0, C.hd, q1.xupd, fun _ => C.e1 (by decide), fun _ => C.e2 (by decide), fun _ => C.e3 (by decide), fun _ => C.e4 (by decide), fun _ => C.e5 (by decide), fun _ => C.e6 (by decide), fun _ => C.e7 (by decide), fun _ => rfl⟩⟩⟩
end
def spTbC (CT CM : Addr) : Sp := fun vs H Q _ => ∃ d t B, vs = [.ref (d.a .tab)] ∧ Rd CT CM H d t B ∧ ∀ H' d', Same H H' → TabAt CT CM H' d' t → (∀ r, live t r → H (d'.a r) = none) → Q (.ref (d'.a .tab)) H'
section
variable {P : Program} {w : World} {K : PySem.W.Frag} {mg : Str → Option Value} {base : Heap} {f : Addr} {fd : FuncData} {CM CT : Addr}
theorem ok_tbC {k : Nat} (F : Fun K "copied" "Table.copied" sTbC f fd) (B' : Bi mg) (cT : Cn K CT tbN) (cM : Cn K CM mtN) (gT : mg "Table" = some (.ref CT)) (MkT : ∃ f fd, Mk K CT f ∧ FnOk P w K mg base CX0 1 f fd ["self", "trees", "most"] (spTbI CT) ∧ Binds K fd ["self", "trees", "most"] []) (Mc : MT P w K mg base 3 CM "copied" ["self"] (spMtC CM)) :
    FnOk P w K mg base CX0 (k + 4) f fd ["self"] (spTbC CT CM) := by
  refine F.ok scTbC (fun vs H Q E h => ?_) (fun cdv A outer s H vs Q E hr h => ?_)
  · obtain ⟨d, t, B, rfl, _⟩ := h
    rfl
  · obtain ⟨d0, t, B, rfl, R, q⟩ := h
    have hr3 : Room 3 (XTC P w K mg base f cdv A outer s H E).A := Room.mono (show Room (k + 3) (XTC P w K mg base f cdv A outer s H E).A from hr) (by omega)
    have last : HoR (XTC P w K mg base f cdv A outer s H E) [stTC 7] (CSs H CT CM (d0.a .tab) t 9) (fun v H' => Q v H') := by
      refine ⟨_, pss_one (ps_ret (pv 1)), ?_⟩
      rintro D σ H1 ⟨x, dx, d, v1, v2, v3, v4, v5, v6, v7, v8, rfl, C⟩ q1
      have hx := C.hx
      rw [C.e1 (by decide), C.e2 (by decide), C.e3 (by decide), C.e4 (by decide), C.e5 (by decide), C.e6 (by decide), C.e7 (by decide), C.e8 (by decide)] at hx
      obtain ⟨h1, h2⟩ := C.p.done (by rw [hx, ← C.hd]; rfl) C.n0
      exact ⟨_, rfl, q1 _ _ (q H1 (d.put .tab x) C.sm h1 h2)⟩
    rw [bodyTbC]
    obtain ⟨tt, ht, hq⟩ := HoR.cons (hC0 cT gT MkT R (hr3.mono (by decide))) (HoR.cons (hC1 cT Mc hr3 cM R) (HoR.cons (hC2 cT B' R) (HoR.cons (hC3 cT B' R) (HoR.cons (hC4 cT B' R) (HoR.cons (hC5 cT B' R) (HoR.cons (hC6 cT B' R) last))))))
    exact ⟨tt, ht, hq _ _ _ ⟨rfl, rfl⟩ fun v H' z => z⟩
end
end Rp
set_option autoImplicit true
set_option Elab.async false
set_option linter.all false
set_option maxRecDepth 100000
set_option maxHeartbeats 8000000
namespace Rp
open PySem PySem.Spec PyProof.Rows L2 Cm Ob Tx
def sNo : TS := fun _ _ _ => False
theorem pss_no {X : Cx} {sts : List Stmt} : PSs X sts sNo := ⟨fun _ _ _ _ _ _ h => h.elim⟩
abbrev sMount : Stmt := inClass sTableC 3
abbrev sSureS : Stmt := inClass sTableC 4
abbrev sRoom : Stmt := inClass sTableC 5
abbrev sStand : Stmt := inClass sTableC 9
abbrev sKindM : Stmt := inClass sMountC 2
theorem scSureS : FnScope ["self", "space"] ["self", "space"] (defScope sSureS) := ⟨rfl, rfl, rfl, by decide +kernel, rfl, by decide +kernel, by decide +kernel⟩
theorem scMount : FnScope ["self", "number"] ["self", "number"] (defScope sMount) := ⟨rfl, rfl, rfl, by decide +kernel, rfl, by decide +kernel, by decide +kernel⟩
theorem scRoom : FnScope ["self", "more"] ["self", "more"] (defScope sRoom) := ⟨rfl, rfl, rfl, by decide +kernel, rfl, by decide +kernel, by decide +kernel⟩
theorem scStand : FnScope ["self", "number", "node", "found"] ["self", "number", "node"] (defScope sStand) := ⟨rfl, rfl, rfl, by decide +kernel, rfl, by decide +kernel, by decide +kernel⟩
theorem scKindM : FnScope ["self", "masters"] ["self", "masters"] (defScope sKindM) := ⟨rfl, rfl, rfl, by decide +kernel, rfl, by decide +kernel, by decide +kernel⟩
def Tb.kindOf (t : Tb) (n : Int) : Str := match (t.mn n).gr with
  | some g => match t.ms g with
    | none => "sharing"
    | some _ => "both"
  | none => match (t.mn n).fo with
    | some _ => "following"
    | none => match (t.mn n).ma with
      | true => "unbindable"
      | false => "alone"
def spSureS (CT CM : Addr) : Sp := fun vs H Q _ => ∃ d t n, vs = [.ref (d.a .tab), .int n] ∧ TabAt CT CM H d t ∧ n ∈ t.ts ∧ Q .non H
def spMount (CT CM : Addr) : Sp := fun vs H Q _ => ∃ d t n, vs = [.ref (d.a .tab), .int n] ∧ TabAt CT CM H d t ∧ n ∈ t.kn ∧ Q (.ref (d.a (.mt n))) H
def spRoom (CT CM : Addr) : Sp := fun vs H Q _ => ∃ d t B n, vs = [.ref (d.a .tab), .int n] ∧ TabAt CT CM H d t ∧ Sz B t ∧ (t.kn.length : Int) + n ≤ t.most ∧ 0 ≤ n ∧ n ≤ 100000 ∧ t.most ≤ 100000 ∧ Q .non H
def spStand (CT CM : Addr) : Sp := fun vs H Q _ => ∃ d t n b, vs = [.ref (d.a .tab), .int n, .ref b] ∧ TabAt CT CM H d t ∧ n ∈ t.kp ∧ t.pc n = [] ∧ H b = some (.tup []) ∧ Q .non H
def spKindM (CT CM : Addr) : Sp := fun vs H Q _ => ∃ d t n, vs = [.ref (d.a (.mt n)), .ref (d.a .ms)] ∧ TabAt CT CM H d t ∧ n ∈ t.kn ∧ (∀ g, (t.mn n).gr = some g → g ∈ t.gm) ∧ Q (.str (t.kindOf n)) H
section
variable {P : Program} {w : World} {K : PySem.W.Frag} {mg : Str → Option Value} {base : Heap} {CM CT : Addr} {f : Addr} {fd : FuncData} {k : Nat}
theorem ok_sureS (F : Fun K "sure_space" "Table.sure_space" sSureS f fd) (B' : Bi mg) (c : Cn K CT tbN) : FnOk P w K mg base CX0 (k + 1) f fd ["self", "space"] (spSureS CT CM) := by
  refine F.ok scSureS (fun vs H Q E h => ?_) (fun cdv A outer s H vs Q E hr h => ?_)
  · obtain ⟨d, t, n, rfl, _⟩ := h
    rfl
  · obtain ⟨d, t, n, rfl, h, ln, q⟩ := h
    refine ⟨_, pss_one (ps_if (PW.pt (pw_or (pt_not (pt_val (pe_callB call_isi (by rfl) B'.isin (by decide +kernel) (pa_cons (pv 1) (pa_cons (pe_bltn (v := .ty "int") (by rfl) B'.int (by decide +kernel) rfl) pa_nil))))) (pw_or (pt_val (pe_callB call_isi (by rfl) B'.isin (by decide +kernel) (pa_cons (pv 1) (pa_cons (pe_bltn (v := .ty "bool") (by rfl) B'.bool (by decide +kernel) rfl) pa_nil)))) (pw_or1 (pt_cmp (pc_dnotin (units1 hr) (pv 1) (pe_fld (pv 0) rfl))))))) pss_no pss_nil), ?_⟩
    refine ⟨_, rfl, _, .ty "int", _, _, true, rfl, .ty _, .base (.int n), kit_ty (by decide +kernel), _, rfl, iteF ?_⟩
    refine ⟨_, rfl, _, .ty "bool", _, _, false, rfl, .ty _, .base (.int n), kit_ty (by decide +kernel), _, rfl, iteF ?_⟩
    refine ⟨_, rfl, _, rfl, d.a .tab, CT, d.dT, _, .ref (d.a .tp), rfl, h.all .tab trivial, c.cl, c.no _ (by decide +kernel), rfl, d.a .tp, _, rfl, DGet.k (k := (Sum.inl n : Key)) (h.all .tp trivial), _, rfl, ?_⟩
    rw [val_dk ln]
    exact iteF q
theorem ok_mount (F : Fun K "mount" "Table.mount" sMount f fd) (B' : Bi mg) (c : Cn K CT tbN) : FnOk P w K mg base CX0 (k + 1) f fd ["self", "number"] (spMount CT CM) := by
  refine F.ok scMount (fun vs H Q E h => ?_) (fun cdv A outer s H vs Q E hr h => ?_)
  · obtain ⟨d, t, n, rfl, _⟩ := h
    rfl
  · obtain ⟨d, t, n, rfl, h, ln, q⟩ := h
    refine ⟨_, pss_cons (ps_if (PW.pt (pw_or (pt_not (pt_val (pe_callB call_isi (by rfl) B'.isin (by decide +kernel) (pa_cons (pv 1) (pa_cons (pe_bltn (v := .ty "int") (by rfl) B'.int (by decide +kernel) rfl) pa_nil))))) (pw_or (pt_val (pe_callB call_isi (by rfl) B'.isin (by decide +kernel) (pa_cons (pv 1) (pa_cons (pe_bltn (v := .ty "bool") (by rfl) B'.bool (by decide +kernel) rfl) pa_nil)))) (pw_or1 (pt_cmp (pc_dnotin (units1 hr) (pv 1) (pe_fld (pv 0) rfl))))))) pss_no pss_nil) (pss_one (ps_ret (pe_dget (units1 hr) (pe_fld (pv 0) rfl) (pv 1) (fun _ _ => rfl)))), ?_⟩
    refine ⟨_, rfl, _, .ty "int", _, _, true, rfl, .ty _, .base (.int n), kit_ty (by decide +kernel), _, rfl, iteF ?_⟩
    refine ⟨_, rfl, _, .ty "bool", _, _, false, rfl, .ty _, .base (.int n), kit_ty (by decide +kernel), _, rfl, iteF ?_⟩
    have hT := h.all .tab trivial
    have hg : DGet H (d.a .kn) (.int n) (some (.ref (d.a (.mt n)))) := by
      have := DGet.k (k := (Sum.inl n : Key)) (h.all .kn trivial)
      rw [val_dk ln] at this
      exact this
    exact ⟨_, rfl, _, rfl, d.a .tab, CT, d.dT, _, .ref (d.a .kn), rfl, hT, c.cl, c.no _ (by decide +kernel), rfl, d.a .kn, _, rfl, hg, _, rfl, iteF ⟨_, rfl, d.a .tab, CT, d.dT, _, .ref (d.a .kn), rfl, hT, c.cl, c.no _ (by decide +kernel), rfl, _, rfl, d.a .kn, _, rfl, hg, q⟩⟩
theorem ok_room (F : Fun K "sure_room" "Table.sure_room" sRoom f fd) (B' : Bi mg) (c : Cn K CT tbN) : FnOk P w K mg base CX0 (k + 1) f fd ["self", "more"] (spRoom CT CM) := by
  refine F.ok scRoom (fun vs H Q E h => ?_) (fun cdv A outer s H vs Q E hr h => ?_)
  · obtain ⟨d, t, B, n, rfl, _⟩ := h
    rfl
  · obtain ⟨d, t, B, n, rfl, h, z, le, n0, n1, mo, q⟩ := h
    refine ⟨_, pss_one (ps_if (pt_cmpR op_gt (pe_op op_add (pe_callB call_lenD (by rfl) B'.len PySem.boot_len (pa_cons (pe_fld (pv 0) rfl) pa_nil)) (pv 1)) (pe_fld (pv 0) rfl) (nomark _)) pss_no pss_nil), ?_⟩
    have hT := h.all .tab trivial
    have hl : (((dk t.kn fun n => V.ref (d.a (.mt n))).length : Nat) : Int) = t.kn.length := by rw [dk_len]
    refine ⟨_, rfl, d.a .tab, CT, d.dT, _, .ref (d.a .kn), rfl, hT, c.cl, c.no _ (by decide +kernel), rfl, d.a .kn, _, rfl, h.all .kn trivial, ?_⟩
    rw [hl]
    refine ⟨_, rfl, _, _, rfl, rfl, _, rfl, d.a .tab, CT, d.dT, _, .int t.most, rfl, hT, c.cl, c.no _ (by decide +kernel), rfl, _, _, rfl, rfl, _, rfl, ?_⟩
    rw [decide_eq_false (Int.not_lt.mpr le)]
    exact iteF q
theorem ok_stand (F : Fun K "standing" "Table.standing" sStand f fd) (c : Cn K CT tbN) : FnOk P w K mg base CX0 (k + 1) f fd ["self", "number", "node"] (spStand CT CM) := by
  refine F.ok scStand (fun vs H Q E h => ?_) (fun cdv A outer s H vs Q E hr h => ?_)
  · obtain ⟨d, t, n, b, rfl, _⟩ := h
    rfl
  · obtain ⟨d, t, n, b, rfl, h, ln, pe, hb, q⟩ := h
    have hu := units1 hr
    refine ⟨_, pss_cons (ps_set (i := 3) scStand.nd rfl (.inl rfl) (pe_dget1 hu (pe_dget hu (pe_fld (pv 0) rfl) (pv 1) (fun _ _ => rfl)) (pv 2) ⟨rfl, rfl, rfl, rfl⟩)) (pss_one (ps_ret (pe_ifExp (pt_cmpR op_isN (pv 3) pe_non (nomark _)) pe_non (pe_dget hu (pe_fld (pv 0) rfl) (pv 3) (fun _ _ => rfl))))), ?_⟩
    have hT := h.all .tab trivial
    have hg : DGet H (d.a .pl) (.int n) (some (.ref (d.a (.pc n)))) := by
      have := DGet.k (k := (Sum.inl n : Key)) (h.all .pl trivial)
      rw [val_dk ln] at this
      exact this
    have hp : H (d.a (.pc n)) = some (.dT []) := by
      rw [h.all (.pc n) ln]
      show some (HO.dT (t.pc n)) = _
      rw [pe]
    refine ⟨_, rfl, d.a .tab, CT, d.dT, _, .ref (d.a .pl), rfl, hT, c.cl, c.no _ (by decide +kernel), rfl, _, rfl, d.a .pl, _, rfl, hg, d.a (.pc n), rfl, ?_, _, rfl, none, DGet.t (k := []) hp hb, ?_⟩
    · exact .inr ⟨_, .inl hp⟩
    exact ⟨_, rfl, rfl, _, rfl, iteT q⟩
theorem ok_kindM (F : Fun K "kind" "Mount.kind" sKindM f fd) (cM : Cn K CM mtN) : FnOk P w K mg base CX0 (k + 1) f fd ["self", "masters"] (spKindM CT CM) := by
  refine F.ok scKindM (fun vs H Q E h => ?_) (fun cdv A outer s H vs Q E hr h => ?_)
  · obtain ⟨d, t, n, rfl, _⟩ := h
    rfl
  · obtain ⟨d, t, n, rfl, h, ln, hg, q⟩ := h
    have hu := units1 hr
    have hm := h.all (.mt n) ln
    refine ⟨_, pss_cons (ps_if (pt_cmpR op_notN (pe_fld (pv 0) rfl) pe_non (nomark _)) (pss_one (ps_ret (pe_ifExp (pt_cmpR op_isN (pe_dget hu (pv 1) (pe_fld (pv 0) rfl) (fun _ _ => rfl)) pe_non (nomark _)) pe_str pe_str))) pss_nil)
      (pss_cons (ps_if (pt_cmpR op_notN (pe_fld (pv 0) rfl) pe_non (nomark _)) (pss_one (ps_ret pe_str)) pss_nil)
      (pss_one (ps_ret (pe_ifExp (pt_val (pe_fld (pv 0) rfl)) pe_str pe_str)))), ?_⟩
    refine ⟨_, rfl, d.a (.mt n), CM, d.dm n, _, oi (t.mn n).gr, rfl, hm, cM.cl, cM.no _ (by decide +kernel), rfl, rfl, _, rfl, ?_⟩
    unfold Tb.kindOf at q
    cases eg : (t.mn n).gr with
    | some g =>
      have hG : DGet H (d.a .ms) (.int g) (some (oi (t.ms g))) := by
        have := DGet.k (k := (Sum.inl g : Key)) (h.all .ms trivial)
        rw [val_dk (hg g eg)] at this
        exact this
      refine iteT ⟨_, rfl, _, rfl, d.a (.mt n), CM, d.dm n, _, oi (t.mn n).gr, rfl, hm, cM.cl, cM.no _ (by decide +kernel), rfl, d.a .ms, _, rfl, by rw [eg]; exact hG, rfl, _, rfl, ?_⟩
      rw [eg] at q
      cases em : t.ms g with
      | none =>
        simp only [em] at q
        exact iteT q
      | some j =>
        simp only [em] at q
        exact iteF q
    | none =>
      rw [eg] at q
      refine iteF ⟨_, rfl, d.a (.mt n), CM, d.dm n, _, oi (t.mn n).fo, rfl, hm, cM.cl, cM.no _ (by decide +kernel), rfl, rfl, _, rfl, ?_⟩
      cases ef : (t.mn n).fo with
      | some j =>
        simp only [ef] at q
        exact iteT q
      | none =>
        simp only [ef] at q
        refine iteF ⟨_, rfl, d.a (.mt n), CM, d.dm n, _, .bl (t.mn n).ma, rfl, hm, cM.cl, cM.no _ (by decide +kernel), rfl, _, rfl, ?_⟩
        cases ea : (t.mn n).ma with
        | true =>
          simp only [ea] at q
          exact iteT q
        | false =>
          simp only [ea] at q
          exact iteF q
end
end Rp
set_option autoImplicit true
set_option Elab.async false
set_option linter.all false
set_option maxRecDepth 100000
set_option maxHeartbeats 4000000
/-! deeds: is_absolute, is_entry, is_deed -/
namespace Tx
open PySem PySem.Spec PyProof.Rows L2 Cm
/-- t == (), t a tuple -/
theorem op_eqE {X : Cx} (hu : X.A.units < cLine) : OpR X (compareOp .Eq) (fun x y H Q => ∃ a b xs, x = .ref a ∧ y = .ref b ∧ SqT X.K H a xs ∧ SqT X.K H b [] ∧ Q (.bl xs.isEmpty) H) := by
  intro pins s σ H x y v u Q I rx ry h
  obtain ⟨a, b, xs, rfl, rfl, ha, hb, q⟩ := h
  cases rx
  cases ry
  obtain ⟨its, r1, p1, _⟩ := I.tuple ha
  obtain ⟨its2, r2, p2, _⟩ := I.tuple hb
  cases r2
  refine SeqAt.eq_tupleAt (e := fun _ => true) p1 p2 hu (fun j h1 h2 => absurd h2 (by simp)) ⟨.bl _, H, I, rfl, ?_⟩
  cases r1 with
  | nil => exact q
  | cons _ _ => exact q
/-- neither a text nor a number -/
def Oth (H : Hp) (v : V) : Prop := v = .non ∨ ∃ p, v = .ref p ∧ ((∃ xs, H p = some (.lst xs)) ∨ (∃ xs, H p = some (.tup xs)) ∨ ∃ xs, H p = some (.dK xs))
theorem Oth.same {H H' : Hp} {v : V} (h : Oth H v) (s : Same H H') : Oth H' v := by
  rcases h with h | ⟨p, e, ⟨xs, h⟩ | ⟨xs, h⟩ | ⟨xs, h⟩⟩
  · exact .inl h
  · exact .inr ⟨p, e, .inl ⟨xs, s _ _ h⟩⟩
  · exact .inr ⟨p, e, .inr (.inl ⟨xs, s _ _ h⟩)⟩
  · exact .inr ⟨p, e, .inr (.inr ⟨xs, s _ _ h⟩)⟩
theorem Oth.ty {K : PySem.W.Frag} {H : Hp} {v : V} (h : Oth H v) : ∃ n, TyX K H v (.type n) ∧ kitB n "str" = some false ∧ kitB n "int" = some false ∧ kitB n "bool" = some false := by
  rcases h with rfl | ⟨p, rfl, ⟨xs, h⟩ | ⟨xs, h⟩ | ⟨xs, h⟩⟩
  · exact ⟨_, .base .non, by decide +kernel, by decide +kernel, by decide +kernel⟩
  · exact ⟨_, .base (.lst h), by decide +kernel, by decide +kernel, by decide +kernel⟩
  · exact ⟨_, .base (.tup h), by decide +kernel, by decide +kernel, by decide +kernel⟩
  · exact ⟨_, .base (.dK h), by decide +kernel, by decide +kernel, by decide +kernel⟩
/-- an entry of what may be a deed -/
inductive EV where
  | str (z : Str)
  | int (i : Int)
  | bl (b : Bool)
  | oth
deriving DecidableEq
def EvAt (H : Hp) (v : V) : EV → Prop
  | .str z => v = .str z ∧ z.length ≤ 100000
  | .int i => v = .int i
  | .bl b => v = .bl b
  | .oth => Oth H v
theorem EvAt.same {H H' : Hp} {v : V} {e : EV} (h : EvAt H v e) (s : Same H H') : EvAt H' v e := by
  cases e with
  | oth => exact Oth.same h s
  | _ => exact h
def kindsL : List Str := ["sharing", "following", "alone", "unbindable"]
def entryB (e : EV) (sort : Str) : Bool :=
  if sort = "path" then (match e with | .str z => pathB z && Txt.startswith z "/" | _ => false)
  else if sort = "space" then (match e with | .int _ => true | _ => false)
  else if sort = "kind" then (match e with | .str z => inV (.str z) (kindsL.map V.str) | _ => false)
  else if sort = "bool" then (match e with | .bl _ => true | _ => false)
  else true
def spAbs : Sp := fun vs H Q _ => ∃ z, vs = [.str z] ∧ Q (.bl (Txt.startswith z "/")) H
def spEntry : Sp := fun vs H Q _ => ∃ x e sort, vs = [x, .str sort] ∧ EvAt H x e ∧ ∀ H', Same H H' → Q (.bl (entryB e sort)) H'
theorem scAbs : FnScope ["path"] ["path"] (defScope sAbs) := ⟨rfl, rfl, rfl, by decide +kernel, rfl, by decide +kernel, by decide +kernel⟩
theorem scEntry : FnScope ["thing", "sort"] ["thing", "sort"] (defScope sEntry) := ⟨rfl, rfl, rfl, by decide +kernel, rfl, by decide +kernel, by decide +kernel⟩
theorem scIsDeed : FnScope ["thing", "form", "entry", "sort"] ["thing"] (defScope sIsDeed) := ⟨rfl, rfl, rfl, by decide +kernel, rfl, by decide +kernel, by decide +kernel⟩
section
variable {P : Program} {w : World} {K : PySem.W.Frag} {mg : Str → Option Value} {base : Heap}
theorem ok_abs {f : Addr} {fd : FuncData} {k : Nat} (F : Fun K "is_absolute" "is_absolute" sAbs f fd) : FnOk P w K mg base CX0 (k + 1) f fd ["path"] spAbs := by
  refine F.ok scAbs (fun vs H Q E h => ?_) (fun cdv A outer s H vs Q E hr h => ?_)
  · obtain ⟨z, rfl, _⟩ := h
    rfl
  · obtain ⟨z, rfl, q⟩ := h
    refine ⟨_, pss_one (ps_ret (pe_bm PySem.F.plainAttrs_str PySem.F.slot_str_startswith PySem.F.type_str_startswith mt_startswith (pv 0) (pa_cons pe_str pa_nil))), ?_⟩
    exact ⟨_, rfl, rfl, z, _, rfl, rfl, q⟩
/-- the tuple KINDS -/
def Kn (K : PySem.W.Frag) (mg : Str → Option Value) : Prop := ∃ a, mg "KINDS" = some (.ref a) ∧ ∀ H, SqT K H a (kindsL.map V.str)
theorem ok_entry {f : Addr} {fd : FuncData} {k : Nat} (F : Fun K "is_entry" "is_entry" sEntry f fd) (B : Bi mg) (Kd : Kn K mg) (Pt : Cl P w K mg base CX0 2 "is_path" ["thing"] (spPath K)) (Ab : Cl P w K mg base CX0 1 "is_absolute" ["path"] spAbs) : FnOk P w K mg base CX0 (k + 3) f fd ["thing", "sort"] spEntry := by
  obtain ⟨aK, mK, hK⟩ := Kd
  refine F.ok scEntry (fun vs H Q E h => ?_) (fun cdv A outer s H vs Q E hr h => ?_)
  · obtain ⟨x, e, sort, rfl, _⟩ := h
    rfl
  · obtain ⟨x, e, sort, rfl, he, q⟩ := h
    have sN : Same H H := Same.refl H
    refine ⟨_, pss_cons (ps_if (pt_cmpR op_eq (pv 1) pe_str (nomark _)) (pss_one (ps_ret (pe_and (pe_cl Pt hr (by omega) (by rfl) pass0 (pa_cons (pv 0) pa_nil)) (pe_one (pe_cl Ab hr (by omega) (by rfl) pass0 (pa_cons (pv 0) pa_nil)))))) pss_nil)
      (pss_cons (ps_if (pt_cmpR op_eq (pv 1) pe_str (nomark _)) (pss_one (ps_ret (pe_and (pe_callB call_isi (by rfl) B.isin (by decide +kernel) (pa_cons (pv 0) (pa_cons (pe_bltn (v := .ty "int") (by rfl) B.int (by decide +kernel) rfl) pa_nil))) (pe_one (pe_not (pe_callB call_isi (by rfl) B.isin (by decide +kernel) (pa_cons (pv 0) (pa_cons (pe_bltn (v := .ty "bool") (by rfl) B.bool (by decide +kernel) rfl) pa_nil)))))))) pss_nil)
      (pss_cons (ps_if (pt_cmpR op_eq (pv 1) pe_str (nomark _)) (pss_one (ps_ret (pe_and (pe_callB call_isi (by rfl) B.isin (by decide +kernel) (pa_cons (pv 0) (pa_cons (pe_bltn (v := .ty "str") (by rfl) B.str (by decide +kernel) rfl) pa_nil))) (pe_one (pe_cmpR op_in_seq (pv 0) (pe_glob (v := .ref aK) (by rfl) mK rfl) (by rfl)))))) pss_nil)
      (pss_cons (ps_if (pt_cmpR op_eq (pv 1) pe_str (nomark _)) (pss_one (ps_ret (pe_callB call_isi (by rfl) B.isin (by decide +kernel) (pa_cons (pv 0) (pa_cons (pe_bltn (v := .ty "bool") (by rfl) B.bool (by decide +kernel) rfl) pa_nil))))) pss_nil)
      (pss_one (ps_ret pe_bl))))), ?_⟩
    have dc : ∀ {a b : Str}, a ≠ b → decide (V.str a = V.str b) = false := fun {a b} n => decide_eq_false fun h => n (V.str.inj h)
    refine ⟨_, rfl, rfl, _, rfl, ?_⟩
    by_cases e1 : sort = "path"
    · subst e1
      refine iteT ?_
      have tn : ∃ b, Tn K H pathB x b ∧ (match e with | .str z => b = pathB z | _ => b = false) := by
        cases e with
        | str z => exact ⟨_, by rw [he.1]; exact .str z he.2, rfl⟩
        | int i => exact ⟨_, by rw [show x = .int i from he]; exact .other (.base (.int i)) (by decide +kernel), rfl⟩
        | bl b => exact ⟨_, by rw [show x = .bl b from he]; exact .other (.base (.bl b)) (by decide +kernel), rfl⟩
        | oth =>
          obtain ⟨n, ty, hs, _, _⟩ := Oth.ty (K := K) he
          exact ⟨_, .other ty hs, rfl⟩
      obtain ⟨b, tn, hb⟩ := tn
      refine ⟨_, rfl, _, _, rfl, tn, fun H1 s1 => ⟨b, rfl, ite2 (fun hb1 => ?_) (fun hb1 => ?_)⟩⟩
      · cases e with
        | str z =>
          refine ⟨_, rfl, z, by rw [he.1]; rfl, ?_⟩
          have := q H1 s1
          unfold entryB at this
          rw [if_pos rfl] at this
          dsimp only at this hb
          rw [← hb, hb1, Bool.true_and] at this
          exact this
        | _ =>
          dsimp only at hb
          rw [hb] at hb1
          cases hb1
      · have := q H1 s1
        unfold entryB at this
        rw [if_pos rfl] at this
        cases e with
        | str z =>
          dsimp only at this hb
          rw [← hb, show b = false by simpa using hb1, Bool.false_and] at this
          exact this
        | _ => exact this
    rw [dc e1]
    refine iteF ⟨_, rfl, rfl, _, rfl, ?_⟩
    by_cases e2 : sort = "space"
    · subst e2
      refine iteT ?_
      have q' := q H sN
      unfold entryB at q'
      rw [if_neg e1, if_pos rfl] at q'
      cases e with
      | int i =>
        cases (show x = .int i from he)
        exact ⟨_, rfl, _, .ty "int", _, _, true, rfl, .ty _, .base (.int i), kit_ty (by decide +kernel), _, rfl, iteT ⟨_, rfl, _, .ty "bool", _, _, false, rfl, .ty _, .base (.int i), kit_ty (by decide +kernel), _, rfl, q'⟩⟩
      | bl b =>
        cases (show x = .bl b from he)
        exact ⟨_, rfl, _, .ty "int", _, _, true, rfl, .ty _, .base (.bl b), kit_ty (by decide +kernel), _, rfl, iteT ⟨_, rfl, _, .ty "bool", _, _, true, rfl, .ty _, .base (.bl b), kit_ty (by decide +kernel), _, rfl, q'⟩⟩
      | str z =>
        cases (show x = .str z from he.1)
        exact ⟨_, rfl, _, .ty "int", _, _, false, rfl, .ty _, .base (.str z), kit_ty (by decide +kernel), _, rfl, iteF q'⟩
      | oth =>
        obtain ⟨n, ty, _, hi, _⟩ := Oth.ty (K := K) he
        exact ⟨_, rfl, _, .ty "int", _, _, false, rfl, .ty _, ty, kit_ty hi, _, rfl, iteF q'⟩
    rw [dc e2]
    refine iteF ⟨_, rfl, rfl, _, rfl, ?_⟩
    by_cases e3 : sort = "kind"
    · subst e3
      refine iteT ?_
      have q' := q H sN
      unfold entryB at q'
      rw [if_neg e1, if_neg e2, if_pos rfl] at q'
      cases e with
      | str z =>
        cases (show x = .str z from he.1)
        exact ⟨_, rfl, _, .ty "str", _, _, true, rfl, .ty _, .base (.str z), kit_ty (by decide +kernel), _, rfl, iteT ⟨_, rfl, aK, _, rfl, .inr (hK _), rfl, rfl, q'⟩⟩
      | int i =>
        cases (show x = .int i from he)
        exact ⟨_, rfl, _, .ty "str", _, _, false, rfl, .ty _, .base (.int i), kit_ty (by decide +kernel), _, rfl, iteF q'⟩
      | bl b =>
        cases (show x = .bl b from he)
        exact ⟨_, rfl, _, .ty "str", _, _, false, rfl, .ty _, .base (.bl b), kit_ty (by decide +kernel), _, rfl, iteF q'⟩
      | oth =>
        obtain ⟨n, ty, hs, _, _⟩ := Oth.ty (K := K) he
        exact ⟨_, rfl, _, .ty "str", _, _, false, rfl, .ty _, ty, kit_ty hs, _, rfl, iteF q'⟩
    rw [dc e3]
    refine iteF ⟨_, rfl, rfl, _, rfl, ?_⟩
    by_cases e4 : sort = "bool"
    · subst e4
      refine iteT ?_
      have q' := q H sN
      unfold entryB at q'
      rw [if_neg e1, if_neg e2, if_neg e3, if_pos rfl] at q'
      cases e with
      | str z =>
        cases (show x = .str z from he.1)
        exact ⟨_, rfl, _, .ty "bool", _, _, false, rfl, .ty _, .base (.str z), kit_ty (by decide +kernel), q'⟩
      | int i =>
        cases (show x = .int i from he)
        exact ⟨_, rfl, _, .ty "bool", _, _, false, rfl, .ty _, .base (.int i), kit_ty (by decide +kernel), q'⟩
      | bl b =>
        cases (show x = .bl b from he)
        exact ⟨_, rfl, _, .ty "bool", _, _, true, rfl, .ty _, .base (.bl b), kit_ty (by decide +kernel), q'⟩
      | oth =>
        obtain ⟨n, ty, _, _, hb⟩ := Oth.ty (K := K) he
        exact ⟨_, rfl, _, .ty "bool", _, _, false, rfl, .ty _, ty, kit_ty hb, q'⟩
    rw [dc e4]
    refine iteF ?_
    have q' := q H sN
    unfold entryB at q'
    rw [if_neg e1, if_neg e2, if_neg e3, if_neg e4] at q'
    exact q'
/-! ### is_deed -/
def formsL : List (Str × List Str) := [("mount", ["space", "tree", "path"]), ("bind", ["space", "path", "path"]), ("bind all", ["space", "path", "path"]), ("move", ["space", "path", "path"]), ("unmount", ["space", "path"]), ("unmount all", ["space", "path"]), ("make", ["space", "path", "kind"]), ("make all", ["space", "path", "kind"]), ("clone", ["space", "bool"])]
/-- words that are none -/
def noWords : List Str := ["Mount", "mounts", "binds", "bind alls", "moves", "unmounts", "unmount alls", "makes", "make alls", "clones"]
/-- the dict FORMS -/
structure Fm (K : PySem.W.Frag) (w : World) (mg : Str → Option Value) : Prop where
  ex : ∃ aF es n, mg "FORMS" = some (.ref aF) ∧ KDict K w aF es n ∧ (∀ p ∈ formsL, ∃ t, PySem.W.nsIn K aF p.1 = some (some (.ref t)) ∧ ∀ H, SqT K H t (p.2.map V.str)) ∧ ∀ z ∈ noWords, PySem.W.nsIn K aF z = some none
/-- a value that may be a deed -/
inductive TV where
  | tup (es : List EV)
  | no
def TvAt (H : Hp) (v : V) : TV → Prop
  | .tup es => ∃ a xs, v = .ref a ∧ H a = some (.tup xs) ∧ Paired (EvAt H) xs es ∧ es.length ≤ 900 ∧ (∀ z, es.head? = some (.str z) → z ∈ formsL.map (·.1) ∨ z ∈ noWords)
  | .no => v = .non ∨ (∃ z, v = .str z) ∨ ∃ p, v = .ref p ∧ ((∃ xs, H p = some (.lst xs)) ∨ ∃ xs, H p = some (.dK xs))
theorem pdE {H H' : Hp} (s : Same H H') : ∀ {xs : List V} {es : List EV}, Paired (EvAt H) xs es → Paired (EvAt H') xs es
  | _, _, .nil => .nil
  | _, _, .cons a r => .cons (a.same s) (pdE s r)
theorem TvAt.same {H H' : Hp} {v : V} {t : TV} (h : TvAt H v t) (s : Same H H') : TvAt H' v t := by
  cases t with
  | tup es =>
    obtain ⟨a, xs, e, ha, p, l, k⟩ := h
    exact ⟨a, xs, e, s _ _ ha, pdE s p, l, k⟩
  | no =>
    rcases h with h | h | ⟨p, e, ⟨xs, h⟩ | ⟨xs, h⟩⟩
    · exact .inl h
    · exact .inr (.inl h)
    · exact .inr (.inr ⟨p, e, .inl ⟨xs, s _ _ h⟩⟩)
    · exact .inr (.inr ⟨p, e, .inr ⟨xs, s _ _ h⟩⟩)
def formOf (z : Str) : Option (List Str) := (formsL.find? fun p => p.1 == z).map (·.2)
def deedB : TV → Bool
  | .no => false
  | .tup [] => false
  | .tup (.str z :: es) => match formOf z with
    | none => false
    | some fm => if (es.length = fm.length) then ((es.zip fm).map fun p => entryB p.1 p.2).all id else false
  | .tup (_ :: _) => false
def spIsDeed : Sp := fun vs H Q _ => ∃ x t, vs = [x] ∧ TvAt H x t ∧ ∀ H', Same H H' → Q (.bl (deedB t)) H'
theorem walk_zipT {K : PySem.W.Frag} {a b : Addr} {xs ys : List V} {n : Nat} (hn : n = min xs.length ys.length) : Walk (RZ.ItzT K a b) n (fun H => SqT K H a xs ∧ SqT K H b ys) (fun i H v H' => ∃ T x y, v = .ref T ∧ H T = none ∧ H' = upd H T (.tup [x, y]) ∧ xs[i]? = some x ∧ ys[i]? = some y) := by
  refine ⟨fun i H hi g => ⟨xs, ys, xs[i]'(by omega), ys[i]'(by omega), g.1, g.2, List.getElem?_eq_getElem _, List.getElem?_eq_getElem _⟩, fun H g => ⟨xs, ys, g.1, g.2, by omega⟩, ?_⟩
  rintro i H x H' hi g ⟨T, y, z, e, h1, h2, h3, h4⟩
  exact ⟨T, y, z, e, h1, h2, h3 _ g.1, h4 _ g.2⟩
theorem deedB_str (z : Str) (es : List EV) : deedB (.tup (.str z :: es)) = (match formOf z with
    | none => false
    | some fm => if (es.length = fm.length) then ((es.zip fm).map fun p => entryB p.1 p.2).all id else false) := rfl
theorem sIx1 (n d : Nat) : HT.sIx (n + 1) d (some 1) = 1 := (HT.sIx_nat (n + 1) d 1).trans (by omega)
theorem cut_tail {x : V} {xs : List V} : cutV (x :: xs) (some 1) none = xs := by
  unfold cutV
  rw [List.length_cons, sIx1, HT.sIx_none]
  exact List.take_of_length_le (by simp)
theorem form_yes {z : Str} (h : z ∈ formsL.map (·.1)) : ∃ p ∈ formsL, p.1 = z ∧ formOf z = some p.2 ∧ p.2.length ≤ 3 := by
  simp only [formsL, List.map_cons, List.map_nil, List.mem_cons, List.not_mem_nil, or_false] at h
  rcases h with rfl | rfl | rfl | rfl | rfl | rfl | rfl | rfl | rfl
  · exact ⟨("mount", ["space", "tree", "path"]), by decide +kernel, rfl, by decide +kernel, by decide⟩
  · exact ⟨("bind", ["space", "path", "path"]), by decide +kernel, rfl, by decide +kernel, by decide⟩
  · exact ⟨("bind all", ["space", "path", "path"]), by decide +kernel, rfl, by decide +kernel, by decide⟩
  · exact ⟨("move", ["space", "path", "path"]), by decide +kernel, rfl, by decide +kernel, by decide⟩
  · exact ⟨("unmount", ["space", "path"]), by decide +kernel, rfl, by decide +kernel, by decide⟩
  · exact ⟨("unmount all", ["space", "path"]), by decide +kernel, rfl, by decide +kernel, by decide⟩
  · exact ⟨("make", ["space", "path", "kind"]), by decide +kernel, rfl, by decide +kernel, by decide⟩
  · exact ⟨("make all", ["space", "path", "kind"]), by decide +kernel, rfl, by decide +kernel, by decide⟩
  · exact ⟨("clone", ["space", "bool"]), by decide +kernel, rfl, by decide +kernel, by decide⟩
theorem form_no {z : Str} (h : z ∈ noWords) : formOf z = none := by
  simp only [noWords, List.mem_cons, List.not_mem_nil, or_false] at h
  rcases h with rfl | rfl | rfl | rfl | rfl | rfl | rfl | rfl | rfl | rfl <;> decide +kernel
theorem pd_atD {α : Type} {F : V → α → Prop} {xs : List V} {ws : List α} (p : Paired F xs ws) : ∀ {i : Nat} {x : V}, xs[i]? = some x → ∃ w, ws[i]? = some w ∧ F x w := by
  induction p with
  | nil =>
    intro i x e
    cases e
  | cons a r ih =>
    intro i x e
    match i, e with
    | 0, e =>
      cases e
      exact ⟨_, rfl, a⟩
    | i + 1, e => exact ih e
theorem ok_isdeed {f : Addr} {fd : FuncData} {k : Nat} (F : Fun K "is_deed" "is_deed" sIsDeed f fd) (B : Bi mg) (hz : mg "zip" = none) (Fo : Fm K w mg) (En : Cl P w K mg base CX0 3 "is_entry" ["thing", "sort"] spEntry) : FnOk P w K mg base CX0 (k + 4) f fd ["thing"] spIsDeed := by
  obtain ⟨aF, es0, n0, mF, KD, fy, fn⟩ := Fo.ex
  refine F.ok scIsDeed (fun vs H Q E h => ?_) (fun cdv A outer s H vs Q E hr h => ?_)
  · obtain ⟨x, t, rfl, _⟩ := h
    rfl
  · obtain ⟨x, t, rfl, ht, q⟩ := h
    have hu : (cxOf CX0 P w K mg base ["thing", "form", "entry", "sort"] "is_deed" (defScope sIsDeed) f cdv A outer s H E).nox.A.units < cLine := Nat.lt_of_le_of_lt (Nat.le_add_right _ 64) hr.units
    refine ⟨_, pss_cons (ps_if (PW.pt (pw_or (pt_not (pt_val (pe_callB call_isi (by rfl) B.isin (by decide +kernel) (pa_cons (pv 0) (pa_cons (pe_bltn (v := .ty "tuple") (by rfl) B.tuple (by decide +kernel) rfl) pa_nil)))))
        (pw_or (pt_cmpR (op_eqE hu) (pv 0) (pe_tup pa_nil) (nomark _))
        (pw_or (pt_not (pt_val (pe_callB call_isi (by rfl) B.isin (by decide +kernel) (pa_cons (pe_ix ix_tup (pv 0) pe_int (fun _ _ => rfl)) (pa_cons (pe_bltn (v := .ty "str") (by rfl) B.str (by decide +kernel) rfl) pa_nil)))))
        (pw_or1 (pt_cmpR (op_notIn_kd KD) (pe_ix ix_tup (pv 0) pe_int (fun _ _ => rfl)) (pe_glob (v := .ref aF) (by rfl) mF rfl) (by rfl))))))) (pss_one (ps_ret pe_bl)) pss_nil)
      (pss_cons (ps_set (i := 1) scIsDeed.nd rfl (.inl rfl) (pe_ix ix_kdict (pe_glob (v := .ref aF) (by rfl) mF rfl) (pe_ix ix_tup (pv 0) pe_int (fun _ _ => rfl)) (fun _ _ => rfl)))
      (pss_cons (ps_if (pt_cmpR op_ne (pe_callB call_len_seq (by rfl) B.len PySem.boot_len (pa_cons (pv 0) pa_nil)) (pe_op op_add (pe_callB call_len_seq (by rfl) B.len PySem.boot_len (pa_cons (pv 1) pa_nil)) pe_int) (nomark _)) (pss_one (ps_ret pe_bl)) pss_nil)
      (pss_one (ps_ret (pe_callB (cr_all rfl) (by rfl) B.all (by decide +kernel) (pa_cons (pe_lc (own := [("entry", 2), ("sort", 3)]) (g := gTup K 2 (gCons (gName 2) (gCons (gName 3) gNil))) (tt := tYes) (by rfl) scIsDeed.nd (RZ.pi_zipA (by rfl) hz (pa_cons (pe_slice sl_tup (pv 0) (po_some pe_int) po_none) (pa_cons (pv 1) pa_nil))) (blkOk_by (own := [("entry", 2), ("sort", 3)]) (N := ["thing", "form", "entry", "sort"]) (sc := defScope sIsDeed) (by decide +kernel))
          (fun _ _ _ _ _ => pg_tup rfl (pgs_cons (pg_name (i := 2) scIsDeed.nd rfl (Or.inl rfl)) (pgs_cons (pg_name (i := 3) scIsDeed.nd rfl (Or.inl rfl)) pgs_nil))) (fun _ _ _ _ _ => pts_nil)
          (fun _ _ _ _ _ => pe_cl En hr (by omega) (by rfl) pass0 (pa_cons (pv 2) (pa_cons (pv 3) pa_nil)))) pa_nil)))))), ?_⟩
    have sN : Same H H := Same.refl H
    cases t with
    | no =>
      have q' := q H sN
      rcases ht with rfl | ⟨z, rfl⟩ | ⟨p, rfl, ⟨xs, h⟩ | ⟨xs, h⟩⟩
      · exact ⟨_, rfl, _, .ty "tuple", _, _, false, rfl, .ty _, .base .non, kit_ty (by decide +kernel), _, rfl, iteT (iteT q')⟩
      · exact ⟨_, rfl, _, .ty "tuple", _, _, false, rfl, .ty _, .base (.str z), kit_ty (by decide +kernel), _, rfl, iteT (iteT q')⟩
      · exact ⟨_, rfl, _, .ty "tuple", _, _, false, rfl, .ty _, .base (.lst h), kit_ty (by decide +kernel), _, rfl, iteT (iteT q')⟩
      · exact ⟨_, rfl, _, .ty "tuple", _, _, false, rfl, .ty _, .base (.dK h), kit_ty (by decide +kernel), _, rfl, iteT (iteT q')⟩
    | tup es =>
      obtain ⟨a, xs, rfl, ha, pd, hl, hw⟩ := ht
      refine ⟨_, rfl, _, .ty "tuple", _, _, true, rfl, .ty _, .base (.tup ha), kit_ty (by decide +kernel), _, rfl, iteF ?_⟩
      refine ⟨_, rfl, (by show 0 ≤ sizeLine; decide), fun p0 hp0 => ?_⟩
      have s0 := same_new (o := HO.tup []) hp0
      have ha0 := s0 _ _ ha
      refine ⟨a, p0, xs, rfl, rfl, SqT.of ha0, SqT.of upd_same, _, rfl, ?_⟩
      cases pd with
      | nil => exact iteT (iteT (q _ s0))
      | @cons x0 e0 xr er h0 hr0 =>
        refine iteF ?_
        have h00 := h0.same s0
        refine ⟨_, rfl, a, _, 0, x0, rfl, rfl, SqT.of ha0, atI_nat (j := 0) rfl, ?_⟩
        cases e0 with
        | int i =>
          cases (show x0 = .int i from h0)
          exact ⟨_, .ty "str", _, _, false, rfl, .ty _, .base (.int i), kit_ty (by decide +kernel), _, rfl, iteT (iteT (q _ s0))⟩
        | bl b =>
          cases (show x0 = .bl b from h0)
          exact ⟨_, .ty "str", _, _, false, rfl, .ty _, .base (.bl b), kit_ty (by decide +kernel), _, rfl, iteT (iteT (q _ s0))⟩
        | oth =>
          obtain ⟨n, ty, hs, _, _⟩ := Oth.ty (K := K) h00
          exact ⟨_, .ty "str", _, _, false, rfl, .ty _, ty, kit_ty hs, _, rfl, iteT (iteT (q _ s0))⟩
        | str z =>
          cases (show x0 = .str z from h0.1)
          refine ⟨_, .ty "str", _, _, true, rfl, .ty _, .base (.str z), kit_ty (by decide +kernel), _, rfl, iteF ?_⟩
          refine ⟨_, rfl, a, _, 0, .str z, rfl, rfl, SqT.of ha0, atI_nat (j := 0) rfl, ?_⟩
          rcases hw z rfl with hz' | hz'
          · obtain ⟨p, hp, rfl, hf, hp3⟩ := form_yes hz'
            obtain ⟨t, ht, hS⟩ := fy p hp
            refine ⟨_, _, rfl, rfl, ht, _, rfl, iteF ?_⟩
            refine ⟨_, rfl, a, _, 0, .str p.1, rfl, rfl, SqT.of ha0, atI_nat (j := 0) rfl, aF, p.1, .ref t, rfl, rfl, ⟨_, _, _, KD.at_, KD.lit, ht, rfl⟩, ?_⟩
            refine ⟨_, rfl, a, _, rfl, .inr (SqT.of ha0), _, rfl, t, _, rfl, .inr (hS _), _, _, rfl, rfl, rfl, _, rfl, ?_⟩
            have lx := Paired.length hr0
            have lf : (p.2.map V.str).length = p.2.length := List.length_map _
            rw [deedB_str, hf] at q
            dsimp only at q
            by_cases hle : er.length = p.2.length
            · rw [if_pos hle] at q
              rw [decide_eq_true (show V.int ((V.str p.1 :: xr).length : Nat) = V.int (((p.2.map V.str).length : Nat) + 1) by rw [lf, List.length_cons, lx, hle]; rfl)]
              refine iteF ?_
              refine ⟨_, rfl, 1, rfl, a, _, rfl, SqT.of ha0, fun z => ?_, fun p1 hp1 => ?_⟩
              · have z1 := z.1
                have e : HT.sIx (V.str p.1 :: xr).length 0 (some 1) = 1 := sIx1 _ _
                rw [e] at z1
                cases z1
              · rw [cut_tail]
                have s1 := same_new (o := HO.tup xr) hp1
                have hE := pdE (s0.trans s1) hr0
                refine ⟨_, rfl, p1, t, xr, _, rfl, .inr ⟨SqT.of upd_same, hS _, fun D hD => lc_it (walk_zipT (K := K) rfl) (fun i H' => H' D = some (.lst ((((er.zip p.2).map fun p => entryB p.1 p.2).take i).map V.bl)) ∧ Same (upd (upd H p0 (.tup [])) p1 (.tup xr)) H') ⟨upd_same, same_new hD⟩ (fun i H' _ h => ⟨SqT.of (h.2 _ _ upd_same), hS _⟩) ?_ ?_⟩⟩
                · rintro i x H1 H2 hi ⟨h3, sm⟩ ⟨T, xx, yy, rfl, hT, rfl, hx, hy⟩
                  obtain ⟨ee, hee, hev⟩ := pd_atD hE hx
                  rw [List.getElem?_map] at hy
                  cases es1 : p.2[i]? with
                  | none =>
                    rw [es1] at hy
                    cases hy
                  | some so =>
                    rw [es1] at hy
                    cases hy
                    have sT := same_new (o := HO.tup [xx, .str so]) hT
                    refine ⟨T, _, rfl, SqT.of upd_same, rfl, _, _, rfl, _, _, rfl, rfl, rfl, _, rfl, _, rfl, xx, ee, so, rfl, hev.same (sm.trans sT), fun H3 s3 => ?_⟩
                    refine ⟨_, s3 _ _ (sT _ _ h3), small1000 ?_, ?_, same_mut hD ((sm.trans sT).trans s3)⟩
                    · rw [List.length_map, List.length_take, List.length_map, List.length_zip]
                      omega
                    · have ez : ((er.zip p.2).map fun p => entryB p.1 p.2)[i]? = some (entryB ee so) := by
                        rw [List.getElem?_map, List.getElem?_zip_eq_some (z := (ee, so)).mpr ⟨hee, es1⟩]
                        rfl
                      rw [upd_same, take_snoc ez, List.map_append]
                      rfl
                · rintro H1 ⟨h3, sm⟩
                  have e : ((er.zip p.2).map fun p => entryB p.1 p.2).take (min xr.length (p.2.map V.str).length) = (er.zip p.2).map fun p => entryB p.1 p.2 := List.take_of_length_le (by rw [List.length_map, List.length_zip, lf, lx]; exact Nat.le_refl _)
                  rw [e] at h3
                  exact ⟨D, _, rfl, SqL.of h3, q H1 ((s0.trans s1).trans sm)⟩
            · rw [if_neg hle] at q
              rw [decide_eq_false (show ¬ V.int ((V.str p.1 :: xr).length : Nat) = V.int (((p.2.map V.str).length : Nat) + 1) from fun z => hle (by
                have z' := V.int.inj z
                rw [lf, List.length_cons, lx] at z'
                omega))]
              exact iteT (q _ s0)
          · refine ⟨_, _, rfl, rfl, fn z hz', _, rfl, iteT ?_⟩
            have := q _ s0
            rw [deedB_str, form_no hz'] at this
            exact this
end
end Tx
set_option autoImplicit true
set_option Elab.async false
set_option linter.all false
set_option maxRecDepth 100000
set_option maxHeartbeats 8000000
namespace Rp
open PySem PySem.Spec PyProof.Rows L2 Cm Ob Tx
/-! the walk along "/" -/
def tNo : TE := fun _ _ _ => False
theorem pe_no {X : Cx} {e : Expr} : PE X e tNo := by
  constructor
  intro pins s σ H Q I h
  exact h.elim
abbrev sWkI : Stmt := inClass sWalkerC 0
abbrev sOnw : Stmt := inClass sWalkerC 1
abbrev sStart : Stmt := inClass sWalkerC 2
abbrev sWalked : Stmt := inClass sWalkerC 3
abbrev nWd : List Str := ["self", "here", "path", "last", "parts", "at", "part", "found"]
abbrev nMI : List Str := ["table", "space", "path", "number", "node"]
theorem scParts : FnScope ["path"] ["path"] (defScope sParts) := ⟨rfl, rfl, rfl, by decide +kernel, rfl, by decide +kernel, by decide +kernel⟩
theorem scWkI : FnScope ["self", "table", "root"] ["self", "table", "root"] (defScope sWkI) := ⟨rfl, rfl, rfl, by decide +kernel, rfl, by decide +kernel, by decide +kernel⟩
theorem scOnw : FnScope ["self", "here", "mount"] ["self", "here"] (defScope sOnw) := ⟨rfl, rfl, rfl, by decide +kernel, rfl, by decide +kernel, by decide +kernel⟩
theorem scStart : FnScope ["self", "here", "path"] ["self", "here", "path"] (defScope sStart) := ⟨rfl, rfl, rfl, by decide +kernel, rfl, by decide +kernel, by decide +kernel⟩
theorem scWd : FnScope nWd ["self", "here", "path", "last"] (defScope sWalked) := ⟨rfl, rfl, rfl, by decide +kernel, rfl, by decide +kernel, by decide +kernel⟩
theorem scSR : FnScope ["table", "space", "mount"] ["table", "space"] (defScope sSpaceRoot) := ⟨rfl, rfl, rfl, by decide +kernel, rfl, by decide +kernel, by decide +kernel⟩
theorem scWI : FnScope ["table", "space", "path", "root"] ["table", "space", "path"] (defScope sWalkIn) := ⟨rfl, rfl, rfl, by decide +kernel, rfl, by decide +kernel, by decide +kernel⟩
theorem scMI : FnScope nMI ["table", "space", "path"] (defScope sMountIn) := ⟨rfl, rfl, rfl, by decide +kernel, rfl, by decide +kernel, by decide +kernel⟩
def wkN : List Str := ["table", "root", "links"]
def wkF (t r : V) : List (Str × V) := [("table", t), ("root", r), ("links", .int 0)]
def spParts : Sp := fun vs H Q _ => vs = [.str "/"] ∧ ∀ p, H p = none → Q (.ref p) (upd H p (.lst []))
def spWkI (CK : Addr) : Sp := fun vs H Q _ => ∃ x dx tv rv, vs = [.ref x, tv, rv] ∧ H x = some (.ins CK dx []) ∧ ∀ H', But x H H' → H' x = some (.ins CK dx (wkF tv rv)) → Q .non H'
/-- all mounts have their root at (), none has a place -/
structure Flat (H : Hp) (t : Tb) (rt : Addr) : Prop where
  hr : H rt = some (.tup [])
  rv : ∀ n ∈ t.kn, (t.mn n).rv = .ref rt
  kp : t.kp = t.kn
  pe : ∀ n ∈ t.kn, t.pc n = []
theorem Flat.same {H H' : Hp} {t : Tb} {rt : Addr} (h : Flat H t rt) (s : Same H H') : Flat H' t rt := ⟨s _ _ h.hr, h.rv, h.kp, h.pe⟩
/-- a walker, and a place of it -/
structure WkAt (CK CT CM : Addr) (H : Hp) (x dx hr : Addr) (n : Int) (d : Ad) (t : Tb) (rt : Addr) : Prop where
  hx : H x = some (.ins CK dx (wkF (.ref (d.a .tab)) (.ref hr)))
  hh : H hr = some (.tup [.int n, .ref rt])
  ta : TabAt CT CM H d t
  fl : Flat H t rt
  ln : n ∈ t.kn
theorem WkAt.same {CK CT CM : Addr} {H H' : Hp} {x dx hr : Addr} {n : Int} {d : Ad} {t : Tb} {rt : Addr} (h : WkAt CK CT CM H x dx hr n d t rt) (s : Same H H') : WkAt CK CT CM H' x dx hr n d t rt := ⟨s _ _ h.hx, s _ _ h.hh, h.ta.same s, h.fl.same s, h.ln⟩
def spOnw (CK CT CM : Addr) : Sp := fun vs H Q _ => ∃ x dx hr n d t rt, vs = [.ref x, .ref hr] ∧ WkAt CK CT CM H x dx hr n d t rt ∧ Q (.ref hr) H
def spStart (CK CT CM : Addr) : Sp := fun vs H Q _ => ∃ x dx hr n d t rt h0, vs = [.ref x, h0, .str "/"] ∧ WkAt CK CT CM H x dx hr n d t rt ∧ Q (.ref hr) H
def spWd (CK CT CM : Addr) : Sp := fun vs H Q _ => ∃ x dx hr n d t rt h0 l, vs = [.ref x, h0, .str "/", l] ∧ WkAt CK CT CM H x dx hr n d t rt ∧ ∀ H', Same H H' → Q (.ref hr) H'
def spSR (CT CM : Addr) : Sp := fun vs H Q _ => ∃ d t n, vs = [.ref (d.a .tab), .int n] ∧ TabAt CT CM H d t ∧ n ∈ t.ts ∧ t.tp n ∈ t.kn ∧ ∀ p, H p = none → Q (.ref p) (upd H p (.tup [.int (t.tp n), (t.mn (t.tp n)).rv]))
def spWIn (CT CM : Addr) : Sp := fun vs H Q _ => ∃ d t n rt, vs = [.ref (d.a .tab), .int n, .str "/"] ∧ TabAt CT CM H d t ∧ Flat H t rt ∧ n ∈ t.ts ∧ t.tp n ∈ t.kn ∧ ∀ H' p, Same H H' → H' p = some (.tup [.int (t.tp n), .ref rt]) → Q (.ref p) H'
def spMIn (CT CM : Addr) : Sp := fun vs H Q _ => ∃ d t n rt, vs = [.ref (d.a .tab), .int n, .str "/"] ∧ TabAt CT CM H d t ∧ Flat H t rt ∧ n ∈ t.ts ∧ t.tp n ∈ t.kn ∧ ∀ H', Same H H' → Q (.ref (d.a (.mt (t.tp n)))) H'
section
variable {P : Program} {w : World} {K : PySem.W.Frag} {mg : Str → Option Value} {base : Heap} {CM CT CK : Addr} {f : Addr} {fd : FuncData} {k : Nat}
theorem ok_parts (F : Fun K "parts_of" "parts_of" sParts f fd) : FnOk P w K mg base CX0 (k + 1) f fd ["path"] spParts := by
  refine F.ok scParts (fun vs H Q E h => ?_) (fun cdv A outer s H vs Q E hr h => ?_)
  · obtain ⟨rfl, _⟩ := h
    rfl
  · obtain ⟨rfl, q⟩ := h
    refine ⟨_, pss_one (ps_ret (pe_ifExp (pt_cmpR op_eq (pv 0) pe_str (nomark _)) (pe_lst pa_nil) pe_no)), ?_⟩
    exact ⟨_, rfl, rfl, _, rfl, iteT ⟨by show 0 ≤ sizeLine; decide, fun p hp => q p hp⟩⟩
theorem ok_wkI (F : Fun K "__init__" "Walker.__init__" sWkI f fd) (c : Cn K CK wkN) : FnOk P w K mg base CX0 (k + 1) f fd ["self", "table", "root"] (spWkI CK) := by
  refine F.ok scWkI (fun vs H Q E h => ?_) (fun cdv A outer s H vs Q E hr h => ?_)
  · obtain ⟨x, dx, tv, rv, rfl, _⟩ := h
    rfl
  · obtain ⟨x, dx, tv, rv, rfl, hx, q⟩ := h
    refine ⟨_, pss_cons (ps_fld (pv 0) (pv 1) rfl) (pss_cons (ps_fld (pv 0) (pv 2) rfl) (pss_one (ps_fld (pv 0) pe_int rfl))), ?_⟩
    refine ⟨_, rfl, _, rfl, x, CK, dx, _, rfl, hx, c.cl, c.no _ (by decide +kernel), by show 0 < 1000; decide, ?_⟩
    refine ⟨_, rfl, _, rfl, x, CK, dx, _, rfl, upd_same, c.cl, c.no _ (by decide +kernel), by show 1 < 1000; decide, ?_⟩
    refine ⟨_, rfl, x, CK, dx, _, rfl, upd_same, c.cl, c.no _ (by decide +kernel), by show 2 < 1000; decide, ?_⟩
    exact q _ ((But.upd.trans But.upd).trans But.upd) upd_same
theorem ok_onw (F : Fun K "onward" "Walker.onward" sOnw f fd) (c : Cn K CK wkN) (cT : Cn K CT tbN) (St : MT P w K mg base 1 CT "standing" ["self", "number", "node"] (spStand CT CM)) : FnOk P w K mg base CX0 (k + 2) f fd ["self", "here"] (spOnw CK CT CM) := by
  obtain ⟨fS, fdS, mS, FS, bS⟩ := St
  refine F.ok scOnw (fun vs H Q E h => ?_) (fun cdv A outer s H vs Q E hr h => ?_)
  · obtain ⟨x, dx, hr, n, d, t, rt, rfl, _⟩ := h
    rfl
  · obtain ⟨x, dx, hh, n, d, t, rt, rfl, W, q⟩ := h
    have hr1 : Room 1 (cxOf CX0 P w K mg base ["self", "here", "mount"] "Walker.onward" (defScope sOnw) f cdv A outer s H E).nox.A := hr.mono (by omega)
    refine ⟨_, pss_cons (ps_set (i := 2) scOnw.nd rfl (.inl rfl) (pe_meth (pe_fld (pv 0) rfl) cT.cl mS FS hr1 bS .nil pass0 (pa_cons (pe_ix ix_tup (pv 1) pe_int (fun _ _ => rfl)) (pa_cons (pe_ix ix_tup (pv 1) pe_int (fun _ _ => rfl)) pa_nil))))
      (pss_cons (ps_while PassesOwn.never (pt_cmpR op_notN (pv 2) pe_non (nomark _)) pss_no) (pss_one (ps_ret (pv 1)))), ?_⟩
    refine ⟨_, rfl, x, CK, dx, _, .ref (d.a .tab), rfl, W.hx, c.cl, c.no _ (by decide +kernel), rfl, d.a .tab, d.dT, _, rfl, W.ta.all .tab trivial, rfl, _, rfl, hh, _, 0, .int n, rfl, rfl, SqT.of W.hh, rfl, _, rfl, hh, _, 1, .ref rt, rfl, rfl, SqT.of W.hh, rfl, d, t, n, rt, rfl, W.ta, by rw [W.fl.kp]; exact W.ln, W.fl.pe n W.ln, W.fl.hr, ?_⟩
    refine ⟨fun m σ H' => σ = [some (.ref x), some (.ref hh), some .non] ∧ H' = H, ⟨0, rfl, rfl⟩, ?_⟩
    rintro m σ H' ⟨rfl, rfl⟩
    exact ⟨_, rfl, rfl, _, rfl, iteF ⟨_, rfl, q⟩⟩
theorem ok_start (F : Fun K "start" "Walker.start" sStart f fd) (c : Cn K CK wkN) (Ab : Cl P w K mg base CX0 1 "is_absolute" ["path"] spAbs) (On : MT P w K mg base 2 CK "onward" ["self", "here"] (spOnw CK CT CM)) : FnOk P w K mg base CX0 (k + 3) f fd ["self", "here", "path"] (spStart CK CT CM) := by
  obtain ⟨fS, fdS, mS, FS, bS⟩ := On
  refine F.ok scStart (fun vs H Q E h => ?_) (fun cdv A outer s H vs Q E hr h => ?_)
  · obtain ⟨x, dx, hr, n, d, t, rt, h0, rfl, _⟩ := h
    rfl
  · obtain ⟨x, dx, hh, n, d, t, rt, h0, rfl, W, q⟩ := h
    have hr2 : Room 2 (cxOf CX0 P w K mg base ["self", "here", "path"] "Walker.start" (defScope sStart) f cdv A outer s H E).nox.A := hr.mono (by omega)
    refine ⟨_, pss_one (ps_ret (pe_meth (pv 0) c.cl mS FS hr2 bS .nil pass0 (pa_cons (pe_ifExp (pt_val (pe_cl Ab hr2 (by decide) (by rfl) pass0 (pa_cons (pv 2) pa_nil))) (pe_fld (pv 0) rfl) (pv 1)) pa_nil))), ?_⟩
    refine ⟨_, rfl, x, dx, _, rfl, W.hx, rfl, _, rfl, "/", rfl, _, rfl, ?_⟩
    have e : Txt.startswith "/" "/" = true := by decide +kernel
    rw [e]
    exact iteT ⟨_, rfl, x, CK, dx, _, .ref hh, rfl, W.hx, c.cl, c.no _ (by decide +kernel), rfl, x, dx, hh, n, d, t, rt, rfl, W, q⟩
theorem ok_wd {dvs : List V} (F : FunD K "walked" "Walker.walked" (defArgs sWalked) (defBody sWalked) (defScope sWalked) dvs [] f fd) (hen : mg "enumerate" = none) (c : Cn K CK wkN) (Pa : Cl P w K mg base CX0 1 "parts_of" ["path"] spParts) (St : MT P w K mg base 3 CK "start" ["self", "here", "path"] (spStart CK CT CM)) : FnOk P w K mg base CX0 (k + 4) f fd ["self", "here", "path", "last"] (spWd CK CT CM) := by
  obtain ⟨fS, fdS, mS, FS, bS⟩ := St
  refine F.ok scWd (fun vs H Q E h => ?_) (fun cdv A outer s H vs Q E hr h => ?_)
  · obtain ⟨x, dx, hr, n, d, t, rt, h0, l, rfl, _⟩ := h
    rfl
  · obtain ⟨x, dx, hh, n, d, t, rt, h0, l, rfl, W, q⟩ := h
    have hr3 : Room 3 (cxOf CX0 P w K mg base nWd "Walker.walked" (defScope sWalked) f cdv A outer s H E).nox.A := Room.mono (show Room (k + 3) (cxOf CX0 P w K mg base nWd "Walker.walked" (defScope sWalked) f cdv A outer s H E).nox.A from hr) (by omega)
    refine ⟨_, PSs.nox (X := cxOf CX0 P w K mg base nWd "Walker.walked" (defScope sWalked) f cdv A outer s H E) (pss_cons (ps_set (i := 1) scWd.nd rfl (.inl rfl) (pe_meth (pv 0) c.cl mS FS hr3 bS .nil pass0 (pa_cons (pv 1) (pa_cons (pv 2) pa_nil))))
      (pss_cons (ps_set (i := 4) scWd.nd rfl (.inl rfl) (pe_cl Pa hr3 (by decide) (by rfl) pass0 (pa_cons (pv 2) pa_nil)))
      (pss_cons (ps_for PassesOwn.never rfl (pi_enum (by rfl) hen (pa_cons (pv 4) pa_nil)) (pg_tup rfl (pgs_cons (pg_name (i := 5) scWd.nd rfl (.inl rfl)) (pgs_cons (pg_name (i := 6) scWd.nd rfl (.inl rfl)) pgs_nil))) pss_no)
      (pss_one (ps_ret (pv 1)))))), ?_⟩
    refine ⟨_, rfl, x, dx, _, rfl, W.hx, rfl, _, rfl, _, rfl, x, dx, hh, n, d, t, rt, h0, rfl, W, ?_⟩
    refine ⟨_, rfl, rfl, fun p hp => ?_⟩
    refine ⟨_, rfl, p, [], rfl, SqL.of upd_same, ?_⟩
    refine for_it (walk_enum (xs := [])) (fun _ σ' H' => σ' = [some (.ref x), some (.ref hh), some (.str "/"), some l, some (.ref p), none, none, none] ∧ H' = upd H p (.lst [])) ⟨rfl, rfl⟩ (fun i σ' H' _ z => by rw [z.2]; exact SqL.of upd_same) (fun i y σ' H' H'' hi => absurd hi (Nat.not_lt_zero _)) ?_
    rintro σ' H' ⟨rfl, rfl⟩
    exact ⟨_, rfl, q _ (same_new hp)⟩
theorem ok_sr (F : Fun K "space_root" "space_root" sSpaceRoot f fd) (cT : Cn K CT tbN) (cM : Cn K CM mtN) : FnOk P w K mg base CX0 (k + 1) f fd ["table", "space"] (spSR CT CM) := by
  refine F.ok scSR (fun vs H Q E h => ?_) (fun cdv A outer s H vs Q E hr h => ?_)
  · obtain ⟨d, t, n, rfl, _⟩ := h
    rfl
  · obtain ⟨d, t, n, rfl, h, ln, lt, q⟩ := h
    have hu := units1 hr
    refine ⟨_, pss_cons (ps_set (i := 2) scSR.nd rfl (.inl rfl) (pe_dget hu (pe_fld (pv 0) rfl) (pe_dget hu (pe_fld (pv 0) rfl) (pv 1) (fun _ _ => rfl)) (fun _ _ => rfl))) (pss_one (ps_ret (pe_tup (pa_cons (pe_fld (pv 2) rfl) (pa_cons (pe_fld (pv 2) rfl) pa_nil))))), ?_⟩
    have hT := h.all .tab trivial
    have g1 : DGet H (d.a .tp) (.int n) (some (.int (t.tp n))) := by
      have := DGet.k (k := (Sum.inl n : Key)) (h.all .tp trivial)
      rw [val_dk ln] at this
      exact this
    have g2 : DGet H (d.a .kn) (.int (t.tp n)) (some (.ref (d.a (.mt (t.tp n))))) := by
      have := DGet.k (k := (Sum.inl (t.tp n) : Key)) (h.all .kn trivial)
      rw [val_dk lt] at this
      exact this
    have hm := h.all (.mt (t.tp n)) lt
    refine ⟨_, rfl, d.a .tab, CT, d.dT, _, .ref (d.a .kn), rfl, hT, cT.cl, cT.no _ (by decide +kernel), rfl, _, rfl, d.a .tab, CT, d.dT, _, .ref (d.a .tp), rfl, hT, cT.cl, cT.no _ (by decide +kernel), rfl, _, rfl, d.a .tp, _, rfl, g1, d.a .kn, _, rfl, g2, ?_⟩
    exact ⟨_, rfl, d.a (.mt (t.tp n)), CM, d.dm (t.tp n), _, .int (t.tp n), rfl, hm, cM.cl, cM.no _ (by decide +kernel), rfl, _, rfl, d.a (.mt (t.tp n)), CM, d.dm (t.tp n), _, (t.mn (t.tp n)).rv, rfl, hm, cM.cl, cM.no _ (by decide +kernel), rfl, by show 2 ≤ sizeLine; decide, fun p hp => q p hp⟩
theorem ok_wi (F : Fun K "walk_in" "walk_in" sWalkIn f fd) (c : Cn K CK wkN) (gK : mg "Walker" = some (.ref CK)) (SR : Cl P w K mg base CX0 1 "space_root" ["table", "space"] (spSR CT CM)) (MkW : ∃ f fd, Mk K CK f ∧ FnOk P w K mg base CX0 1 f fd ["self", "table", "root"] (spWkI CK) ∧ Binds K fd ["self", "table", "root"] []) (Wd : ∃ f fd ds, Meth K CK "walked" f ∧ FnOk P w K mg base CX0 4 f fd ["self", "here", "path", "last"] (spWd CK CT CM) ∧ Binds K fd ["self", "here", "path", "last"] ds ∧ Vals [.bl true] ds) : FnOk P w K mg base CX0 (k + 5) f fd ["table", "space", "path"] (spWIn CT CM) := by
  obtain ⟨fI, fdI, MK, FI, bI⟩ := MkW
  obtain ⟨fW, fdW, ds, mW, FW, bW, vW⟩ := Wd
  refine F.ok scWI (fun vs H Q E h => ?_) (fun cdv A outer s H vs Q E hr h => ?_)
  · obtain ⟨d, t, n, rt, rfl, _⟩ := h
    rfl
  · obtain ⟨d, t, n, rt, rfl, h, fl, ln, lt, q⟩ := h
    have hr4 : Room 4 (cxOf CX0 P w K mg base ["table", "space", "path", "root"] "walk_in" (defScope sWalkIn) f cdv A outer s H E).nox.A := hr.mono (by omega)
    refine ⟨_, pss_cons (ps_set (i := 3) scWI.nd rfl (.inl rfl) (pe_cl SR hr4 (by decide) (by rfl) pass0 (pa_cons (pv 0) (pa_cons (pv 1) pa_nil)))) (pss_one (ps_ret (pe_meth (pe_make MK FI (hr4.mono (by decide)) (by rfl) gK bI .nil pass0 (pa_cons (pv 0) (pa_cons (pv 3) pa_nil))) c.cl mW FW hr4 bW vW pass0 (pa_cons (pv 3) (pa_cons (pv 2) pa_nil))))), ?_⟩
    refine ⟨_, rfl, _, rfl, d, t, n, rfl, h, ln, lt, fun p hp => ?_⟩
    have s1 := same_new (o := HO.tup [.int (t.tp n), (t.mn (t.tp n)).rv]) hp
    have hp1 : upd H p (HO.tup [.int (t.tp n), (t.mn (t.tp n)).rv]) p = some (.tup [.int (t.tp n), .ref rt]) := by
      rw [upd_same, fl.rv _ lt]
    generalize hH1 : upd H p (HO.tup [.int (t.tp n), (t.mn (t.tp n)).rv]) = H1 at s1 hp1 ⊢
    refine ⟨_, rfl, _, rfl, fun x dx hx hdx ne => ?_⟩
    refine ⟨x, dx, _, _, rfl, upd_same, fun H2 b2 hx2 => ?_⟩
    have s2 : Same H1 H2 := fun e o he => b2 e o (ne_of_none he hx) (by rw [upd_ne (ne_of_none he hx), upd_ne (ne_of_none he hdx)]; exact he)
    refine ⟨rfl, x, dx, _, rfl, hx2, rfl, _, rfl, _, rfl, x, dx, p, t.tp n, d, t, rt, .ref p, .bl true, rfl, ⟨hx2, s2 _ _ hp1, (h.same s1).same s2, (fl.same s1).same s2, lt⟩, fun H3 s3 => q H3 p (s1.trans (s2.trans s3)) (s3 _ _ (s2 _ _ hp1))⟩
theorem ok_mi (F : Fun K "mount_in" "mount_in" sMountIn f fd) (cT : Cn K CT tbN) (cM : Cn K CM mtN) (Wi : Cl P w K mg base CX0 5 "walk_in" ["table", "space", "path"] (spWIn CT CM)) : FnOk P w K mg base CX0 (k + 6) f fd ["table", "space", "path"] (spMIn CT CM) := by
  refine F.ok scMI (fun vs H Q E h => ?_) (fun cdv A outer s H vs Q E hr h => ?_)
  · obtain ⟨d, t, n, rt, rfl, _⟩ := h
    rfl
  · obtain ⟨d, t, n, rt, rfl, h, fl, ln, lt, q⟩ := h
    have hr5 : Room 5 (cxOf CX0 P w K mg base nMI "mount_in" (defScope sMountIn) f cdv A outer s H E).nox.A := hr.mono (by omega)
    have hu := units1 hr5
    refine ⟨_, pss_cons (ps_asg (pe_cl Wi hr5 (by decide) (by rfl) pass0 (pa_cons (pv 0) (pa_cons (pv 1) (pa_cons (pv 2) pa_nil)))) (pg_tup rfl (pgs_cons (pg_name (i := 3) scMI.nd rfl (.inl rfl)) (pgs_cons (pg_name (i := 4) scMI.nd rfl (.inl rfl)) pgs_nil))))
      (pss_cons (ps_if (pt_cmpR (op_neD hr.units) (pv 4) (pe_fld (pe_dget hu (pe_fld (pv 0) rfl) (pv 3) (fun _ _ => rfl)) rfl) (nomark _)) pss_no pss_nil)
      (pss_one (ps_ret (pe_dget hu (pe_fld (pv 0) rfl) (pv 3) (fun _ _ => rfl))))), ?_⟩
    refine ⟨_, rfl, _, rfl, _, rfl, d, t, n, rt, rfl, h, fl, ln, lt, fun H1 p s1 hp => ?_⟩
    have h1 := h.same s1
    have hT := h1.all .tab trivial
    have g2 : DGet H1 (d.a .kn) (.int (t.tp n)) (some (.ref (d.a (.mt (t.tp n))))) := by
      have := DGet.k (k := (Sum.inl (t.tp n) : Key)) (h1.all .kn trivial)
      rw [val_dk lt] at this
      exact this
    have hm := h1.all (.mt (t.tp n)) lt
    have hrt := s1 _ _ fl.hr
    refine ⟨p, _, rfl, SqT.of hp, rfl, _, _, rfl, _, _, rfl, rfl, ?_⟩
    refine ⟨_, rfl, _, rfl, d.a .tab, CT, d.dT, _, .ref (d.a .kn), rfl, hT, cT.cl, cT.no _ (by decide +kernel), rfl, _, rfl, d.a .kn, _, rfl, g2, d.a (.mt (t.tp n)), CM, d.dm (t.tp n), _, (t.mn (t.tp n)).rv, rfl, hm, cM.cl, cM.no _ (by decide +kernel), rfl, .tuple [], .tuple [], .tup (SqT.of hrt) .nil, by rw [fl.rv _ lt]; exact .tup (SqT.of hrt) .nil, rfl, rfl, _, rfl, iteF ?_⟩
    exact ⟨_, rfl, d.a .tab, CT, d.dT, _, .ref (d.a .kn), rfl, hT, cT.cl, cT.no _ (by decide +kernel), rfl, _, rfl, d.a .kn, _, rfl, g2, q H1 s1⟩
end
end Rp
set_option autoImplicit true
set_option Elab.async false
set_option linter.all false
set_option maxRecDepth 100000
set_option maxHeartbeats 4000000
/-! d |= e, both dicts with texts or whole numbers as keys; a call of what an expression gives -/
namespace Io
open PySem PySem.Spec PyProof.Rows L2
section
variable {prog : Program} {w : World} {K : Type} [DecidableEq K]
theorem meets_ior (knd : KeyKind prog w K) (d o : Addr) (hdo : d ≠ o) (hoS : (o == sysModules) = false) :
    MeetsIn prog w (Builtin.«dict.__ior__» ⟨[.ref d, .ref o], []⟩) (fun _ R s => ∃ kvs more, s.heap.DictOf knd d kvs ∧ s.heap.DictOf knd o more ∧ kvs.length + more.length ≤ sizeLine ∧
      ∀ h', h'.DictOf knd d (merged kvs more) → h'.DictOf knd o more → Heap.SameBut d s.heap h' → R (.ok (.ret (.ref d))) { s with heap := h' }) :=
  .of_wp fun A R s ⟨kvs, more, hd, ho, hsz, h⟩ => by
    unfold Builtin.«dict.__ior__» Builtin.Dict.dictSlotArgs
    refine wpAny_bind (wpAny_bind (wpAny_notOrdered_dict hd.typeIs ?_))
    refine wpAny_bind ?_
    show wpAny _ _ (pure (Value.ref d, [Value.ref o])) _ _ s
    refine wpAny_pure (wpAny_pure (wpAny_bind (wpAny_pure ?_)))
    show wpAny _ _ (Builtin.Dict.updateFrom "dict.__ior__" d (.ref o) [] (.ref d)) _ _ s
    unfold Builtin.Dict.updateFrom
    refine wpAny_bind (wpAny_typeOf ho.typeIs ?_)
    rw [if_neg (by decide)]
    refine wpAny_bind ?_
    unfold Builtin.Dict.merge
    refine wpAny_bind ?_
    unfold Builtin.Dict.readDirectly
    refine wpAny_bind (wpAny_isInstance ho.typeIs isSubtype_dict_dict ?_)
    simp only [Bool.not_true, Bool.false_eq_true, if_false]
    refine wpAny_bind (wpAny_specialOf ho.typeIs F.slot_dict_iter.lookup (wpAny_pure ?_))
    simp only [beq_self_eq_true, if_true]
    refine wpAny_bind (wpAny_pure ?_)
    refine wpAny_mergeDict (hsz := hsz) hdo hoS hd ho fun h' hd' ho' hs' => ?_
    show wpAny _ _ (Builtin.Dict.addKeywords d [] >>= _) _ _ _
    exact wpAny_bind (wpAny_pure (wpAny_pure ⟨.ref d, rfl, h h' hd' ho' hs'⟩))
end
theorem ior_road {M : Model} {A : Around} {E : Value → Shared → Prop} {s : Shared} {a b : Value} {Q : Value → Shared → Prop} (ha : s.TypeIs a "dict") (hc : wpAny M A (call (.builtin "dict.__ior__") [a, b]) (fun v s' => v ≠ .notImplemented ∧ Q v s') E s) : wpAny M A (inplaceOp .BitOr a b) Q E s := by
  have hsl : typeLookup (.type "dict") (dunderI "or") = pure (some (.builtin "dict.__ior__")) := PySem.F.slot_dict_ior.lookup
  have hsq : isSeqSlot (some (.builtin "dict.__ior__")) = false := by decide +kernel
  have hfi : fillsInplaceSlot (.type "dict") "or" (Operator.BitOr == .Add) = pure true := by
    unfold fillsInplaceSlot
    show (typeLookup (.type "dict") (dunderI "or") >>= fun fi => pure (fi.isSome && !isSeqSlot fi)) = pure true
    rw [hsl]
    show (pure (true && !isSeqSlot (some (.builtin "dict.__ior__"))) : Sem Bool) = pure true
    rw [hsq] <;> rfl
  unfold inplaceOp
  refine wpAny_holding ?_
  refine wpAny_bind (wpAny_typeOf ha (wpAny_bind (wpAny_of_eq hfi ?_)))
  show wpAny M A (if true = true then _ else _) Q E s
  rw [if_pos rfl]
  refine wpAny_bind (wpAny_tryMethod_slot ha PySem.F.slot_dict_ior (wpAny_mono hc (fun v s' h' => ⟨h'.1, ?_⟩) fun _ _ h' => h'))
  wp_walk
  exact h'.2
/-- d |= e -/
def rIor : R2 := fun x y H Q => ∃ d e kvs more, x = .ref d ∧ y = .ref e ∧ H d = some (.dK kvs) ∧ H e = some (.dK more) ∧ d ≠ e ∧ kvs.length + more.length ≤ 1000 ∧ Q (.ref d) (upd H d (.dK (mergeK kvs more)))
theorem iop_ior {X : Cx} : OpR X (inplaceOp .BitOr) rIor := by
  intro pins s σ H x y v u Q I rx ry h
  obtain ⟨d, e, kvs, more, rfl, rfl, hd, he, ne, hz, q⟩ := h
  cases rx
  cases ry
  obtain ⟨z1, lo1, vs, rel, dd⟩ := dk_of I.hok hd
  obtain ⟨z2, lo2, rs, rel2, de⟩ := dk_of I.hok he
  have hsz : vs.length + rs.length ≤ sizeLine := by
    rw [← rel.length, ← rel2.length, sizeLine_eq]
    omega
  refine ior_road dd.typeIs (call_meetsIn PySem.F.slot_dict_ior dd.typeIs PySem.F.entry_dict_ior (PySem.F.args_dict_ior_2 _ _) (meets_ior (mixKind X.prog X.w) d e ne lo2) ⟨vs, rs, dd, de, hsz, fun h' hd' he' hs' => ?_⟩)
  have hl : (mergeK kvs more).length ≤ sizeLine := by
    refine Nat.le_trans (length_mergeK more kvs) ?_
    rw [sizeLine_eq]
    omega
  have hg : ∃ q, h'.get? d = some q := by
    obtain ⟨o, _, _, ho, _⟩ := hd'
    exact ⟨o, ho⟩
  exact ⟨(fun z => nomatch z), .ref d, _, d_write (t' := s.toks) I (by rw [hd]; exact trivial) hs' hg (dk_new hl lo1 (KV.merge rel2 rel) hd'), rfl, q⟩
/-- a call of what an expression gives: a def of the top -/
def tCallE (f : Addr) (sp : Sp) (E : XK) (tf : TE) (t : TA) : TE := fun σ H Q => tf σ H fun x H1 => x = .ref f ∧ t σ H1 fun vs H2 => sp vs H2 Q E
theorem pe_callE {X : Cx} {CX : CXT} {k : Nat} {f : Addr} {fd : FuncData} {ps : List Str} {sp : Sp} {E : XK} {g e : Expr} {es : List Expr} {tf : TE} {t : TA} {pos : Pos} (hf : PE X g tf) (F : FnOk X.prog X.w X.K X.mg X.base CX k f fd ps sp) (hr : Room k X.A) (hk : PySem.W.keepIn X.K (.ref f) = true) (hb : Binds X.K fd ps []) (hx : Passes CX X E) (ha : PA X (e :: es) t)
    (ht : eval (.Call g (e :: es) [] pos) X.env = (do callWith pos (← eval g X.env) [] (backTo pos (starEach (e :: es) X.env)) (backToKw pos (keywordEach [] X.env))) := by rfl)
    (he : starEach (e :: es) X.env = (false, eval e X.env) :: starEach es X.env := by rfl) (hpl : (backTo pos (starEach es X.env)).any (·.1) = false := by rfl) : PE X (.Call g (e :: es) [] pos) (tCallE f sp E tf t) := by
  constructor
  intro pins s σ H Q I h
  refine Call_ (thn (hf.run pins s σ H _ I h) fun u s1 ⟨x, H1, I1, rx, ex, q⟩ => ?_) ht
  subst ex
  cases (show u = Value.ref f from rx)
  refine PySem.W.callWith_K (h₀ := X.base) I.ok.mod.kin hk (thn (ha.run pos pins s1 σ H1 _ I1 q) fun us s2 ⟨vs, H2, I2, r, q2⟩ => ⟨I2.kIn, ?_⟩) he hpl
  have hl : us.length = ps.length := by
    rw [← r.length]
    exact F.len _ _ _ _ q2
  have b := hb s2 us I2.kIn (by rw [List.append_nil]; exact hl)
  rw [List.append_nil] at b
  refine wpAny_call (codeAny_mono (F.run X.A X.stack s2 H2 ⟨us, []⟩ us vs Q E hr I2.env0 b r q2) ?_)
  rintro (er | fl) s' z
  · exact hx pins σ _ _ er s' I2 z
  · match fl, z with
    | .ret u', z => exact I2.after z
end Io
set_option autoImplicit true
set_option Elab.async false
set_option linter.all false
set_option maxRecDepth 100000
set_option maxHeartbeats 8000000
namespace Rp
open PySem PySem.Spec PyProof.Rows L2 Cm Ob Tx LamX
/-! do_make, make_deed -/
/-- what is told of a table's objects -/
theorem ob_ntbl {CT CM : Addr} {d : Ad} {t : Tb} (r : Role) (ps : Array Value) : ob CT CM d t r ≠ .tbl ps := fun h => by
  cases r <;> cases h
theorem ob_ncode {CT CM : Addr} {d : Ad} {t : Tb} (r : Role) (c : Addr) (q : Str) : ob CT CM d t r ≠ CodeO c q := fun h => by
  unfold CodeO at h
  cases r <;> cases h
theorem ob_ntup {CT CM : Addr} {d : Ad} {t : Tb} (r : Role) (l : List V) : ob CT CM d t r ≠ .tup l := fun h => by
  cases r <;> cases h
theorem TabAt.outOf {CT CM : Addr} {H : Hp} {d : Ad} {t : Tb} (h : TabAt CT CM H d t) {b : Addr} {o : HO} (hb : H b = some o) (n : ∀ r, ob CT CM d t r ≠ o) : Out d t b := fun r l e => by
  have := h.all r l
  rw [← e, hb] at this
  exact n r (Option.some.inj this).symm
/-- all else stays but tables of code objects -/
def FrN (H : Hp) (d : Ad) (t : Tb) (H' : Hp) (d' : Ad) (t' : Tb) : Prop := ∀ b o, H b = some o → (∀ ps, o ≠ .tbl ps) → Out d t b → H' b = some o ∧ Out d' t' b
theorem Fr.n {H : Hp} {d : Ad} {t : Tb} {H' : Hp} {d' : Ad} {t' : Tb} (f : Fr H d t H' d' t') : FrN H d t H' d' t' := fun b o h _ q => f b o h q
theorem FrN.trans {H H1 H2 : Hp} {d d1 d2 : Ad} {t t1 t2 : Tb} (a : FrN H d t H1 d1 t1) (b : FrN H1 d1 t1 H2 d2 t2) : FrN H d t H2 d2 t2 := fun c o h n q => let ⟨h1, q1⟩ := a c o h n q; b c o h1 n q1
theorem Fr.tabs {CT CM : Addr} {H : Hp} {d : Ad} {t : Tb} {H' : Hp} {d' : Ad} {t' : Tb} {T : List (Addr × Str)} (h : TabAt CT CM H d t) (f : Fr H d t H' d' t') (tb : Tabs T H) : Tabs T H' := fun p hp => by
  obtain ⟨ps, a1, a2, a3⟩ := tb p hp
  refine ⟨ps, (f _ _ a1 (h.outOf a1 fun r => ob_ntbl r ps)).1, a2, fun pos cv hc => ?_⟩
  obtain ⟨c, e, hcc⟩ := a3 pos cv hc
  exact ⟨c, e, (f _ _ hcc (h.outOf hcc fun r => ob_ncode r c _)).1⟩
theorem scDoMake : FnScope ["table", "space", "path", "kind"] ["table", "space", "path", "kind"] (defScope sDoMake) := ⟨rfl, rfl, rfl, by decide +kernel, rfl, by decide +kernel, by decide +kernel⟩
def spDoMake (CT CM : Addr) : Sp := fun vs H Q _ => ∃ d t B n kind rt, vs = [.ref (d.a .tab), .int n, .str "/", .str kind] ∧ TabAt CT CM H d t ∧ Wf t ∧ Sz B t ∧ B + B + 10 ≤ 90000 ∧ Flat H t rt ∧ n ∈ t.ts ∧ t.tp n ∈ t.kn ∧ ∀ H' d', TabAt CT CM H' d' (t.make (t.tp n) kind) → Fr H d t H' d' (t.make (t.tp n) kind) → d'.a .tab = d.a .tab → Q .non H'
/-- what a namespace's clone makes of the table: one mount in each namespace -/
def Tb.clo4 (t : Tb) (n : Int) (tru : Bool) : Tb :=
  let N : Int := t.ts.length
  let t2 := ({ t with os := t.os ++ [N], ow := fu t.ow N (if tru then t.ow n else N) }).newM N (t.mn (t.tp n)).tr (t.mn (t.tp n)).rv
  let t3 := { t2 with ts := t2.ts ++ [N], tp := fu t2.tp N t.cm }
  t3.setM t.cm { t3.mn t.cm with st := (t.mn (t.tp n)).st, ma := (t.mn (t.tp n)).ma, lo := tru && (t.mn (t.tp n)).lo }
def Tb.clone (t : Tb) (n : Int) (tru : Bool) : Tb := match (t.mn (t.tp n)).gr with
  | none => (t.clo4 n tru).follow t.cm (t.mn (t.tp n)).fo
  | some g => match tru with
    | true => (t.clo4 n tru).join t.cm g
    | false => (t.clo4 n tru).follow t.cm (some g)
structure Clo (t : Tb) (n : Int) : Prop where
  one : ∀ k ∈ t.kn, (t.mn k).sp = n ↔ k = t.tp n
  nd : t.kn.Nodup
  pa : (t.mn (t.tp n)).pa = none
  room : (t.kn.length : Int) + 1 ≤ t.most
  most : t.most ≤ 100000
  os : n ∈ t.os
  nts : (t.ts.length : Int) ∉ t.ts
  nos : (t.ts.length : Int) ∉ t.os
  nkn : t.cm ∉ t.kn
  nkp : t.cm ∉ t.kp
def spClone (T : List (Addr × Str)) (CT CM : Addr) : Sp := fun vs H Q _ => ∃ d t B n tru rt, vs = [.ref (d.a .tab), .int n, .bl tru] ∧ TabAt CT CM H d t ∧ Tabs T H ∧ Wf t ∧ Sz B t ∧ B + B + 10 ≤ 90000 ∧ Flat H t rt ∧ n ∈ t.ts ∧ t.tp n ∈ t.kn ∧ Clo t n ∧ ∀ H' d', TabAt CT CM H' d' (t.clone n tru) → Tabs T H' → FrN H d t H' d' (t.clone n tru) → d'.a .tab = d.a .tab → Q (.int t.ts.length) H'
abbrev nMD : List Str := ["table", "deed", "stood", "plain", "word", "space"]
theorem scMD : FnScope nMD ["table", "deed", "stood"] (defScope sMakeDeed) := ⟨rfl, rfl, rfl, by decide +kernel, rfl, by decide +kernel, by decide +kernel⟩
/-- a deed of this law, and what it makes of the table -/
inductive DdAt (H : Hp) (dd : Addr) (t : Tb) : Int → Tb → V → Prop
  | make {n : Int} {kind : Str} (h : H dd = some (.tup [.str "make", .int n, .str "/", .str kind])) : DdAt H dd t n (t.make (t.tp n) kind) .non
  | clone {n : Int} {tru : Bool} (h : H dd = some (.tup [.str "clone", .int n, .bl tru])) (c : Clo t n) : DdAt H dd t n (t.clone n tru) (.int t.ts.length)
theorem DdAt.same {H H' : Hp} {dd : Addr} {t t' : Tb} {n : Int} {v : V} (h : DdAt H dd t n t' v) (s : Same H H') : DdAt H' dd t n t' v := by
  cases h with
  | make h => exact .make (s _ _ h)
  | clone h c => exact .clone (s _ _ h) c
def spMD (T : List (Addr × Str)) (CT CM : Addr) : Sp := fun vs H Q _ => ∃ d t B n dd st rt t' v, vs = [.ref (d.a .tab), .ref dd, st] ∧ TabAt CT CM H d t ∧ Tabs T H ∧ Wf t ∧ Sz B t ∧ B + B + 10 ≤ 90000 ∧ Flat H t rt ∧ n ∈ t.ts ∧ t.tp n ∈ t.kn ∧ DdAt H dd t n t' v ∧ ∀ H' d', TabAt CT CM H' d' t' → Tabs T H' → FrN H d t H' d' t' → d'.a .tab = d.a .tab → Q v H'
/-- the defs that the dict names -/
structure Pl (mg : Str → Option Value) (f1 f2 f3 f4 f5 f6 : Addr) : Prop where
  g1 : mg "do_mount" = some (.ref f1)
  g2 : mg "do_bind" = some (.ref f2)
  g3 : mg "do_bind_all" = some (.ref f3)
  g4 : mg "do_move" = some (.ref f4)
  g5 : mg "do_make" = some (.ref f5)
  g6 : mg "do_make_all" = some (.ref f6)
section
variable {P : Program} {w : World} {K : PySem.W.Frag} {mg : Str → Option Value} {base : Heap} {CM CT : Addr} {f : Addr} {fd : FuncData} {k : Nat} {T : List (Addr × Str)}
theorem ok_doMake (F : Fun K "do_make" "do_make" sDoMake f fd) (MO : Cl P w K mg base CX0 4 "make_one" ["table", "mount", "kind"] (spMk CT CM)) (MI : Cl P w K mg base CX0 6 "mount_in" ["table", "space", "path"] (spMIn CT CM)) : FnOk P w K mg base CX0 (k + 7) f fd ["table", "space", "path", "kind"] (spDoMake CT CM) := by
  refine F.ok scDoMake (fun vs H Q E h => ?_) (fun cdv A outer s H vs Q E hr h => ?_)
  · obtain ⟨d, t, B, n, kind, rt, rfl, _⟩ := h
    rfl
  · obtain ⟨d, t, B, n, kind, rt, rfl, h, wf, z, hB, fl, ln, lt, q⟩ := h
    refine ⟨_, pss_one (ps_expr (pe_cl MO hr (by omega) (by rfl) pass0 (pa_cons (pv 0) (pa_cons (pe_cl MI hr (by omega) (by rfl) pass0 (pa_cons (pv 0) (pa_cons (pv 1) (pa_cons (pv 2) pa_nil)))) (pa_cons (pv 3) pa_nil))))), ?_⟩
    refine ⟨_, rfl, _, rfl, _, rfl, _, rfl, d, t, n, rt, rfl, h, fl, ln, lt, fun H1 s1 => ?_⟩
    exact ⟨_, rfl, d, t, B, t.tp n, kind, rfl, h.same s1, wf, z, hB, lt, fun H' d' h' f' e1 _ => q H' d' h' ((Fr.same h s1).trans f') e1⟩
theorem cut2 (a b : V) (rest : List V) : cutV (a :: b :: rest) none (some 2) = [a, b] := by
  unfold cutV
  rw [HT.sIx_none]
  have e : HT.sIx (a :: b :: rest).length (a :: b :: rest).length (some 2) = 2 := (HT.sIx_nat _ _ 2).trans (by simp only [List.length_cons]; omega)
  rw [e]
  rfl
theorem cut2w (a b c : V) (rest : List V) : ¬ (HT.sIx (a :: b :: c :: rest).length 0 none = 0 ∧ HT.sIx (a :: b :: c :: rest).length (a :: b :: c :: rest).length (some 2) = (a :: b :: c :: rest).length) := fun z0 => by
  have e : HT.sIx (a :: b :: c :: rest).length (a :: b :: c :: rest).length (some 2) = 2 := (HT.sIx_nat _ _ 2).trans (by simp only [List.length_cons]; omega)
  have := z0.2
  rw [e] at this
  simp only [List.length_cons] at this
  omega
theorem ok_MD {f1 f2 f3 f4 f5 f6 : Addr} {fd5 : FuncData} (F : Fun K "make_deed" "make_deed" sMakeDeed f fd) (cT : Cn K CT tbN) (SS : MT P w K mg base 1 CT "sure_space" ["self", "space"] (spSureS CT CM))
    (pl : Pl mg f1 f2 f3 f4 f5 f6) (F5 : FnOk P w K mg base CX0 7 f5 fd5 ["table", "space", "path", "kind"] (spDoMake CT CM)) (k5 : PySem.W.keepIn K (.ref f5) = true) (b5 : Binds K fd5 ["table", "space", "path", "kind"] [])
    (DC : Cl P w K mg base CX0 7 "do_clone" ["table", "space", "trusted"] (spClone T CT CM)) : FnOk P w K mg base CX0 (k + 8) f fd ["table", "deed", "stood"] (spMD T CT CM) := by
  obtain ⟨fS, fdS, mS, FS, bS⟩ := SS
  refine F.ok scMD (fun vs H Q E h => ?_) (fun cdv A outer s H vs Q E hr h => ?_)
  · obtain ⟨d, t, B, n, dd, st, rt, t', v, rfl, _⟩ := h
    rfl
  · obtain ⟨d, t, B, n, dd, st, rt, t', v, rfl, h, tb, wf, z, hB, fl, ln, lt, hd, q⟩ := h
    have hr1 : Room 1 (cxOf CX0 P w K mg base nMD "make_deed" (defScope sMakeDeed) f cdv A outer s H E).nox.A := hr.mono (by omega)
    have hr7 : Room 7 (cxOf CX0 P w K mg base nMD "make_deed" (defScope sMakeDeed) f cdv A outer s H E).nox.A := hr.mono (by omega)
    have hu := units1 hr1
    refine ⟨_, pss_cons (ps_asg (pe_slice sl_tup (pv 1) po_none (po_some pe_int)) (pg_tup rfl (pgs_cons (pg_name (i := 4) scMD.nd rfl (Or.inl rfl)) (pgs_cons (pg_name (i := 5) scMD.nd rfl (Or.inl rfl)) pgs_nil))))
      (pss_cons (ps_expr (pe_meth (pv 0) cT.cl mS FS hr1 bS .nil pass0 (pa_cons (pv 5) pa_nil)))
      (pss_cons (ps_if (pt_cmpR op_eq (pv 4) pe_str (nomark _)) pss_no pss_nil)
      (pss_cons (ps_if (pt_cmpR op_eq (pv 4) pe_str (nomark _)) pss_no pss_nil)
      (pss_cons (ps_if (pt_cmpR op_eq (pv 4) pe_str (nomark _)) (pss_one (ps_ret (pe_cl DC hr7 (by decide) (by rfl) pass0 (pa_cons (pv 0) (pa_cons (pv 5) (pa_cons (pe_ix ix_tup (pv 1) pe_int (fun _ _ => rfl)) pa_nil)))))) pss_nil)
      (pss_cons (ps_set (i := 3) scMD.nd rfl (.inl rfl) (pe_disp (pps_cons pe_str (pe_glob (v := .ref f1) (by rfl) pl.g1 rfl) (pps_cons pe_str (pe_glob (v := .ref f2) (by rfl) pl.g2 rfl) (pps_cons pe_str (pe_glob (v := .ref f3) (by rfl) pl.g3 rfl) (pps_cons pe_str (pe_glob (v := .ref f4) (by rfl) pl.g4 rfl) pps_nil)))) rfl rfl (by simp) (by decide)))
      (pss_cons (ps_aug (i := 3) scMD.nd rfl (.inl rfl) (pe_disp (pps_cons pe_str (pe_glob (v := .ref f5) (by rfl) pl.g5 rfl) (pps_cons pe_str (pe_glob (v := .ref f6) (by rfl) pl.g6 rfl) pps_nil)) rfl rfl (by simp) (by decide)) Io.iop_ior)
      (pss_one (ps_ret (Io.pe_callE (pe_dget hu (pv 3) (pv 4) (fun _ _ => rfl)) F5 hr7 k5 b5 pass0 (pa_cons (pv 0) (pa_cons (pv 5) (pa_cons (pe_ix ix_tup (pv 1) pe_int (fun _ _ => rfl)) (pa_cons (pe_ix ix_tup (pv 1) pe_int (fun _ _ => rfl)) pa_nil))))))))))))), ?_⟩
    cases hd with
    | clone hd c =>
      rename_i tru
      refine ⟨_, rfl, 2, rfl, dd, _, rfl, SqT.of hd, cut2w _ _ _ _, fun p1 hp1 => ?_⟩
      rw [cut2]
      have s1 := same_new (o := HO.tup [V.str "clone", .int n]) hp1
      have h1 := h.same s1
      refine ⟨p1, _, rfl, SqT.of upd_same, rfl, _, _, rfl, _, _, rfl, rfl, ?_⟩
      refine ⟨_, rfl, d.a .tab, d.dT, _, rfl, h1.all .tab trivial, rfl, _, rfl, d, t, n, rfl, h1, ln, ?_⟩
      refine ⟨_, rfl, rfl, _, rfl, iteF ?_⟩
      refine ⟨_, rfl, rfl, _, rfl, iteF ?_⟩
      refine ⟨_, rfl, rfl, _, rfl, iteT ?_⟩
      exact ⟨_, rfl, _, rfl, _, rfl, dd, _, 2, .bl tru, rfl, rfl, SqT.of (s1 _ _ hd), rfl, d, t, B, n, tru, rt, rfl, h1, tb.ext s1, wf, z, hB, fl.same s1, ln, lt, c, fun H' d' h' tb' f' e' => q H' d' h' tb' ((Fr.same h s1).n.trans f') e'⟩
    | make hd =>
      rename_i kind
      refine ⟨_, rfl, 2, rfl, dd, _, rfl, SqT.of hd, cut2w _ _ _ _, fun p1 hp1 => ?_⟩
      rw [cut2]
      have s1 := same_new (o := HO.tup [V.str "make", .int n]) hp1
      have h1 := h.same s1
      refine ⟨p1, _, rfl, SqT.of upd_same, rfl, _, _, rfl, _, _, rfl, rfl, ?_⟩
      refine ⟨_, rfl, d.a .tab, d.dT, _, rfl, h1.all .tab trivial, rfl, _, rfl, d, t, n, rfl, h1, ln, ?_⟩
      refine ⟨_, rfl, rfl, _, rfl, iteF ?_⟩
      refine ⟨_, rfl, rfl, _, rfl, iteF ?_⟩
      refine ⟨_, rfl, rfl, _, rfl, iteF ?_⟩
      intro p2 hp2
      refine ⟨upd_same, [(Sum.inr "mount", .ref f1), (Sum.inr "bind", .ref f2), (Sum.inr "bind all", .ref f3), (Sum.inr "move", .ref f4)], rfl, by show 4 ≤ 15; decide, ?_⟩
      have s2 : Same (upd H p1 (.tup [V.str "make", .int n])) (upd (upd (upd H p1 (.tup [V.str "make", .int n])) p2 (.dK [])) p2 (.dK (mergeK [] [(Sum.inr "mount", .ref f1), (Sum.inr "bind", .ref f2), (Sum.inr "bind all", .ref f3), (Sum.inr "move", .ref f4)]))) := same_mut hp2 (same_new hp2)
      generalize hH2 : upd (upd (upd H p1 (.tup [V.str "make", .int n])) p2 (.dK [])) p2 (.dK (mergeK [] [(Sum.inr "mount", .ref f1), (Sum.inr "bind", .ref f2), (Sum.inr "bind all", .ref f3), (Sum.inr "move", .ref f4)])) = H2 at *
      have h2 : H2 p2 = some (.dK (mergeK [] [(Sum.inr "mount", .ref f1), (Sum.inr "bind", .ref f2), (Sum.inr "bind all", .ref f3), (Sum.inr "move", .ref f4)])) := by
        rw [← hH2]
        exact upd_same
      have hp2H : H p2 = none := by
        cases e : H p2 with
        | none => rfl
        | some o =>
          rw [s1 _ _ e] at hp2
          cases hp2
      refine ⟨_, rfl, fun p3 hp3 => ⟨upd_same, [(Sum.inr "make", .ref f5), (Sum.inr "make all", .ref f6)], rfl, by show 2 ≤ 15; decide, ?_⟩⟩
      have s3 : Same H2 (upd (upd H2 p3 (.dK [])) p3 (.dK (mergeK [] [(Sum.inr "make", .ref f5), (Sum.inr "make all", .ref f6)]))) := same_mut hp3 (same_new hp3)
      have n23 : p2 ≠ p3 := ne_of_none h2 hp3
      refine ⟨p2, p3, _, _, rfl, rfl, s3 _ _ h2, upd_same, n23, by show 4 + 2 ≤ 1000; decide, ?_⟩
      have sF : Same H (upd (upd (upd H2 p3 (.dK [])) p3 (.dK (mergeK [] [(Sum.inr "make", .ref f5), (Sum.inr "make all", .ref f6)]))) p2 (.dK (mergeK (mergeK [] [(Sum.inr "mount", .ref f1), (Sum.inr "bind", .ref f2), (Sum.inr "bind all", .ref f3), (Sum.inr "move", .ref f4)]) (mergeK [] [(Sum.inr "make", .ref f5), (Sum.inr "make all", .ref f6)])))) := same_mut hp2H (s1.trans (s2.trans s3))
      have hF := h.same sF
      have hdF := sF _ _ hd
      refine ⟨_, rfl, _, rfl, p2, .ref f5, rfl, DGet.k (k := (Sum.inr "make" : Key)) upd_same, rfl, _, rfl, _, rfl, _, rfl, dd, _, 2, .str "/", rfl, rfl, SqT.of hdF, rfl, _, rfl, dd, _, 3, .str kind, rfl, rfl, SqT.of hdF, rfl, d, t, B, n, kind, rt, rfl, hF, wf, z, hB, fl.same sF, ln, lt, fun H' d' h' f' e' => q H' d' h' (Fr.tabs hF f' (tb.ext sF)) ((Fr.same h sF).trans f').n e'⟩
end
end Rp
set_option autoImplicit true
set_option Elab.async false
set_option linter.all false
set_option maxRecDepth 100000
set_option maxHeartbeats 8000000
namespace Rp
open PySem PySem.Spec PyProof.Rows L2 Cm Ob Tx LamX
/-! World.stood, do, told, peers, followed -/
theorem scSure : FnScope ["thing"] ["thing"] (defScope sSureDeed) := ⟨rfl, rfl, rfl, by decide +kernel, rfl, by decide +kernel, by decide +kernel⟩
def spSure : Sp := fun vs H Q _ => ∃ x t, vs = [x] ∧ TvAt H x t ∧ deedB t = true ∧ ∀ H', Same H H' → Q .non H'
abbrev sDo : Stmt := inClass sWorldC 1
abbrev sStood : Stmt := inClass sWorldC 2
theorem scDo : FnScope ["self", "deed", "table", "found"] ["self", "deed"] (defScope sDo) := ⟨rfl, rfl, rfl, by decide +kernel, rfl, by decide +kernel, by decide +kernel⟩
theorem scStood : FnScope ["self", "found", "session"] ["self"] (defScope sStood) := ⟨rfl, rfl, rfl, by decide +kernel, rfl, by decide +kernel, by decide +kernel⟩
/-- a world without sessions, of the table t -/
structure WAt (CW CT CM : Addr) (H : Hp) (x dx : Addr) (fi : V) (l1 l2 : Addr) (ds : List V) (d : Ad) (t : Tb) (rt : Addr) : Prop where
  hx : H x = some (.ins CW dx (woF fi (.ref l1) (.ref l2) (.ref (d.a .tab))))
  h1 : H l1 = some (.lst ds)
  h2 : H l2 = some (.lst [])
  ta : TabAt CT CM H d t
  fl : Flat H t rt
  ne : l1 ≠ l2
theorem WAt.same {CW CT CM : Addr} {H H' : Hp} {x dx : Addr} {fi : V} {l1 l2 : Addr} {ds : List V} {d : Ad} {t : Tb} {rt : Addr} (h : WAt CW CT CM H x dx fi l1 l2 ds d t rt) (s : Same H H') : WAt CW CT CM H' x dx fi l1 l2 ds d t rt := ⟨s _ _ h.hx, s _ _ h.h1, s _ _ h.h2, h.ta.same s, h.fl.same s, h.ne⟩
theorem tabs_updO {T : List (Addr × Str)} {H : Hp} {b : Addr} {u o : HO} (tb : Tabs T H) (hb : H b = some u) (n1 : ∀ ps, u ≠ .tbl ps) (n2 : ∀ c q, u ≠ CodeO c q) : Tabs T (upd H b o) := fun p hp => by
  obtain ⟨ps, a1, a2, a3⟩ := tb p hp
  have e1 : p.1 ≠ b := fun e => by
    rw [e, hb] at a1
    exact n1 ps (Option.some.inj a1)
  refine ⟨ps, by rw [upd_ne e1]; exact a1, a2, fun pos cv hc => ?_⟩
  obtain ⟨c, e, hcc⟩ := a3 pos cv hc
  have e2 : c ≠ b := fun e => by
    rw [e, hb] at hcc
    exact n2 _ _ (Option.some.inj hcc)
  exact ⟨c, e, by rw [upd_ne e2]; exact hcc⟩
theorem ins_ncode {C d : Addr} {fs : List (Str × V)} (c : Addr) (q : Str) : (HO.ins C d fs) ≠ CodeO c q := fun h => by
  unfold CodeO at h
  cases h
theorem lst_ncode {l : List V} (c : Addr) (q : Str) : (HO.lst l) ≠ CodeO c q := fun h => by
  unfold CodeO at h
  cases h
def spStood (CW : Addr) : Sp := fun vs H Q _ => ∃ x dx fi v1 l2 tv, vs = [.ref x] ∧ H x = some (.ins CW dx (woF fi v1 (.ref l2) tv)) ∧ H l2 = some (.lst []) ∧ ∀ v H', Same H H' → Q v H'
/-- all else stays but the tables of code objects -/
def ButN (x l : Addr) (H H' : Hp) : Prop := ∀ b o, b ≠ x → b ≠ l → (∀ ps, o ≠ .tbl ps) → H b = some o → H' b = some o
def spDo (T : List (Addr × Str)) (CW CT CM : Addr) : Sp := fun vs H Q _ => ∃ x dx fi l1 l2 ds d t rt B n dd tv t' v, vs = [.ref x, .ref dd] ∧ WAt CW CT CM H x dx fi l1 l2 ds d t rt ∧ Tabs T H ∧ Wf t ∧ Sz B t ∧ B + B + 10 ≤ 90000 ∧ t.kn.Nodup ∧ t.gm.Nodup ∧ n ∈ t.ts ∧ t.tp n ∈ t.kn ∧ DdAt H dd t n t' v ∧ TvAt H (.ref dd) tv ∧ deedB tv = true ∧ ds.length ≤ 1000 ∧
  (∀ H' d', ButN x l1 H H' → Tabs T H' → H' x = some (.ins CW dx (woF fi (.ref l1) (.ref l2) (.ref (d'.a .tab)))) → H' l1 = some (.lst (ds ++ [.ref dd])) → TabAt CT CM H' d' t' → (∀ b o, H b = some o → (∀ ps, o ≠ .tbl ps) → Out d' t' b) → Q v H')
section
variable {P : Program} {w : World} {K : PySem.W.Frag} {mg : Str → Option Value} {base : Heap} {CM CT CW : Addr} {f : Addr} {fd : FuncData} {k : Nat} {T : List (Addr × Str)}
theorem ok_sure (F : Fun K "sure_deed" "sure_deed" sSureDeed f fd) (I : Cl P w K mg base CX0 4 "is_deed" ["thing"] spIsDeed) : FnOk P w K mg base CX0 (k + 5) f fd ["thing"] spSure := by
  refine F.ok scSure (fun vs H Q E h => ?_) (fun cdv A outer s H vs Q E hr h => ?_)
  · obtain ⟨x, t, rfl, _⟩ := h
    rfl
  · obtain ⟨x, t, rfl, ht, hb, q⟩ := h
    refine ⟨_, pss_one (ps_if (pt_not (pt_val (pe_cl I hr (by omega) (by rfl) pass0 (pa_cons (pv 0) pa_nil)))) pss_no pss_nil), ?_⟩
    refine ⟨_, rfl, x, t, rfl, ht, fun H1 s1 => ⟨_, rfl, ?_⟩⟩
    rw [hb]
    exact iteF (q H1 s1)
theorem ok_stood (F : Fun K "stood" "World.stood" sStood f fd) (cW : Cn K CW woN) : FnOk P w K mg base CX0 (k + 1) f fd ["self"] (spStood CW) := by
  refine F.ok scStood (fun vs H Q E h => ?_) (fun cdv A outer s H vs Q E hr h => ?_)
  · obtain ⟨x, dx, fi, v1, l2, tv, rfl, _⟩ := h
    rfl
  · obtain ⟨x, dx, fi, v1, l2, tv, rfl, hx, h2, q⟩ := h
    refine ⟨_, pss_cons (ps_set (i := 1) scStood.nd rfl (.inl rfl) pe_dnewK) (pss_cons (ps_for PassesOwn.never rfl (pi_list (pe_fld (pv 0) rfl)) (pg_name (i := 2) scStood.nd rfl (Or.inl rfl)) pss_no) (pss_one (ps_ret (pv 1)))), ?_⟩
    intro p hp
    have s1 := same_new (o := HO.dK []) hp
    have hx1 := s1 _ _ hx
    have h21 := s1 _ _ h2
    refine ⟨_, rfl, x, CW, dx, _, .ref l2, rfl, hx1, cW.cl, cW.no _ (by decide +kernel), rfl, l2, rfl, ⟨_, SqL.of h21⟩, for_list (K := K) (a := l2) (xs := []) (fun i σ H' => σ = [some (.ref x), some (.ref p), none] ∧ H' = upd H p (.dK [])) ⟨rfl, rfl⟩ (fun i σ H' _ h => by rw [h.2]; exact SqL.of h21) ?_ ?_⟩
    · rintro i y σ H1 hy
      cases hy
    · rintro σ H1 ⟨rfl, rfl⟩
      exact ⟨_, rfl, q _ _ s1⟩
theorem ok_do (F : Fun K "do" "World.do" sDo f fd) (cW : Cn K CW woN) (cT : Cn K CT tbN) (Su : Cl P w K mg base CX0 5 "sure_deed" ["thing"] spSure) (Co : MT P w K mg base 4 CT "copied" ["self"] (spTbC CT CM)) (Md : Cl P w K mg base CX0 8 "make_deed" ["table", "deed", "stood"] (spMD T CT CM)) (St : MT P w K mg base 1 CW "stood" ["self"] (spStood CW)) :
    FnOk P w K mg base CX0 (k + 9) f fd ["self", "deed"] (spDo T CW CT CM) := by
  obtain ⟨fC, fdC, mC, FC, bC⟩ := Co
  obtain ⟨fS, fdS, mS, FS, bS⟩ := St
  refine F.ok scDo (fun vs H Q E h => ?_) (fun cdv A outer s H vs Q E hr h => ?_)
  · obtain ⟨x, dx, fi, l1, l2, ds, d, t, rt, B, n, dd, tv, t', v, rfl, _⟩ := h
    rfl
  · obtain ⟨x, dx, fi, l1, l2, ds, d, t, rt, B, n, dd, tv, t', v, rfl, W, tb, wf, z, hB, nk, ng, ln, lt, hd, ht, hb, hl, q⟩ := h
    have hr1 : Room 1 (cxOf CX0 P w K mg base ["self", "deed", "table", "found"] "World.do" (defScope sDo) f cdv A outer s H E).nox.A := hr.mono (by omega)
    have hr4 : Room 4 (cxOf CX0 P w K mg base ["self", "deed", "table", "found"] "World.do" (defScope sDo) f cdv A outer s H E).nox.A := hr.mono (by omega)
    refine ⟨_, pss_cons (ps_expr (pe_cl Su hr (by omega) (by rfl) pass0 (pa_cons (pv 1) pa_nil)))
      (pss_cons (ps_set (i := 2) scDo.nd rfl (.inl rfl) (pe_meth0 (pe_fld (pv 0) rfl) cT.cl mC FC hr4 bC .nil pass0))
      (pss_cons (ps_set (i := 3) scDo.nd rfl (.inl rfl) (pe_cl Md hr (by omega) (by rfl) pass0 (pa_cons (pv 2) (pa_cons (pv 1) (pa_cons (pe_meth0 (pv 0) cW.cl mS FS hr1 bS .nil pass0) pa_nil)))))
      (pss_cons (ps_fld (pv 0) (pv 2) rfl)
      (pss_cons (ps_expr (pe_bm PySem.F.plainAttrs_list PySem.F.slot_list_append PySem.F.type_list_append mt_append (pe_fld (pv 0) rfl) (pa_cons (pv 1) pa_nil)))
      (pss_one (ps_ret (pv 3))))))), ?_⟩
    refine ⟨_, rfl, _, tv, rfl, ht, hb, fun H1 s1 => ?_⟩
    have W1 := W.same s1
    refine ⟨_, rfl, x, CW, dx, _, .ref (d.a .tab), rfl, W1.hx, cW.cl, cW.no _ (by decide +kernel), rfl, d.a .tab, d.dT, _, rfl, W1.ta.all .tab trivial, rfl, d, t, B, rfl, ⟨W1.ta, z, nk, by rw [W.fl.kp]; exact nk, by rw [wf.gb]; exact ng, by rw [wf.gh]; exact ng, by rw [W.fl.kp]; exact W.fl.pe⟩, fun H2 d2 s2 h2 n2 => ?_⟩
    have W2 := W1.same s2
    refine ⟨_, rfl, _, rfl, _, rfl, x, dx, _, rfl, W2.hx, rfl, x, dx, fi, _, l2, _, rfl, W2.hx, W2.h2, fun v3 H3 s3 => ?_⟩
    have W3 := W2.same s3
    have s13 := (s1.trans s2).trans s3
    have hT2 := h2.same s3
    -- all of H is outside the copy
    have out : ∀ b o, H b = some o → Out d2 t b := fun b o hb r l e => by
      have := n2 r l
      rw [← e] at this
      rw [s1 _ _ hb] at this
      cases this
    refine ⟨d2, t, B, n, dd, v3, rt, t', v, rfl, hT2, (tb.ext s13), wf, z, hB, W3.fl, ln, lt, hd.same s13, fun H4 d4 h4 tb4 f4 e4 => ?_⟩
    have keep : ∀ b o, H b = some o → (∀ ps, o ≠ .tbl ps) → H4 b = some o ∧ Out d4 t' b := fun b o hb hn => f4 b o (s13 _ _ hb) hn (out b o hb)
    obtain ⟨hx4, ox4⟩ := keep _ _ W.hx (fun ps h => by cases h)
    obtain ⟨hl4, ol4⟩ := keep _ _ W.h1 (fun ps h => by cases h)
    have nxl : x ≠ l1 := ne_of hx4 hl4 (by intro z; cases z)
    refine ⟨_, rfl, _, rfl, x, CW, dx, _, rfl, hx4, cW.cl, cW.no _ (by decide +kernel), by show 4 < 1000; decide, ?_⟩
    have hx5 : upd H4 x (.ins CW dx (putF "table" (.ref (d2.a .tab)) (woF fi (.ref l1) (.ref l2) (.ref (d.a .tab))))) x = some (.ins CW dx (woF fi (.ref l1) (.ref l2) (.ref (d4.a .tab)))) := by
      rw [upd_same, e4]
      rfl
    have hl5 : upd H4 x (.ins CW dx (putF "table" (.ref (d2.a .tab)) (woF fi (.ref l1) (.ref l2) (.ref (d.a .tab))))) l1 = some (.lst ds) := by
      rw [upd_ne (Ne.symm nxl)]
      exact hl4
    have h5 : TabAt CT CM (upd H4 x (.ins CW dx (putF "table" (.ref (d2.a .tab)) (woF fi (.ref l1) (.ref l2) (.ref (d.a .tab)))))) d4 t' := h4.updOut ox4
    have k5 : ∀ b o, b ≠ x → (∀ ps, o ≠ .tbl ps) → H b = some o → upd H4 x (.ins CW dx (putF "table" (.ref (d2.a .tab)) (woF fi (.ref l1) (.ref l2) (.ref (d.a .tab))))) b = some o := fun b o hbx hn hb => by
      rw [upd_ne hbx]
      exact (keep b o hb hn).1
    have tb5 : Tabs T (upd H4 x (.ins CW dx (putF "table" (.ref (d2.a .tab)) (woF fi (.ref l1) (.ref l2) (.ref (d.a .tab)))))) := tabs_updO tb4 hx4 (fun ps h => by cases h) ins_ncode
    generalize hH5 : upd H4 x (.ins CW dx (putF "table" (.ref (d2.a .tab)) (woF fi (.ref l1) (.ref l2) (.ref (d.a .tab))))) = H5 at hx5 hl5 h5 k5 tb5 ⊢
    refine ⟨_, rfl, x, CW, dx, _, .ref l1, rfl, hx5, cW.cl, cW.no _ (by decide +kernel), rfl, .inl ⟨rfl, _, SqL.of hl5⟩, _, rfl, l1, _, _, rfl, rfl, hl5, small1000 (by omega), ?_⟩
    refine ⟨_, rfl, q _ d4 (fun b o hbx hbl hn hb => ?_) (tabs_updO tb5 hl5 (fun ps h => by cases h) lst_ncode) ?_ upd_same (h5.updOut ol4) (fun b o hb hn => (keep b o hb hn).2)⟩
    · rw [upd_ne hbl]
      exact k5 b o hbx hn hb
    · rw [upd_ne nxl]
      exact hx5
end
end Rp
set_option autoImplicit true
set_option Elab.async false
set_option linter.all false
set_option maxRecDepth 100000
set_option maxHeartbeats 8000000
namespace Rp
open PySem PySem.Spec PyProof.Rows L2 Cm Ob Tx LamX
/-! World.told, peers, followed -/
abbrev sTold : Stmt := inClass sWorldC 10
abbrev sPeers : Stmt := inClass sWorldC 11
abbrev sFollowed : Stmt := inClass sWorldC 12
theorem scTold : FnScope ["self", "number", "mount", "kind"] ["self", "number"] (defScope sTold) := ⟨rfl, rfl, rfl, by decide +kernel, rfl, by decide +kernel, by decide +kernel⟩
theorem scPeers : FnScope ["self", "number", "mount"] ["self", "number"] (defScope sPeers) := ⟨rfl, rfl, rfl, by decide +kernel, rfl, by decide +kernel, by decide +kernel⟩
theorem scFollowed : FnScope ["self", "number", "mount", "group"] ["self", "number"] (defScope sFollowed) := ⟨rfl, rfl, rfl, by decide +kernel, rfl, by decide +kernel, by decide +kernel⟩
/-- l in order -/
def Srt (l l' : List Int) : Prop := l'.Perm l ∧ l'.Pairwise (· ≤ ·)
def Tb.grp (t : Tb) (n : Int) : Option Int := match (t.mn n).gr with
  | none => (t.mn n).fo
  | some g => t.ms g
/-- few members -/
def Few (t : Tb) : Prop := ∀ g ∈ t.gm, (t.me g).length < 64
def spTold (CW CT CM : Addr) : Sp := fun vs H Q _ => ∃ x dx fi l1 l2 ds d t rt n, vs = [.ref x, .int n] ∧ WAt CW CT CM H x dx fi l1 l2 ds d t rt ∧ Wf t ∧ n ∈ t.kn ∧ ∀ p, H p = none → Q (.ref p) (upd H p (.tup [.int (t.mn n).sp, .str (t.mn n).tr, (t.mn n).rv, oi (t.mn n).pa, (t.mn n).pv, .str (t.kindOf n), .bl (t.mn n).lo]))
def spPeers (CW CT CM : Addr) : Sp := fun vs H Q _ => ∃ x dx fi l1 l2 ds d t rt n, vs = [.ref x, .int n] ∧ WAt CW CT CM H x dx fi l1 l2 ds d t rt ∧ Wf t ∧ Few t ∧ n ∈ t.kn ∧ ∀ p l, H p = none → (match (t.mn n).gr with | none => l = [n] | some g => Srt (t.me g) l) → Q (.ref p) (upd H p (.lst (l.map V.int)))
def spFollowed (CW CT CM : Addr) : Sp := fun vs H Q _ => ∃ x dx fi l1 l2 ds d t rt n, vs = [.ref x, .int n] ∧ WAt CW CT CM H x dx fi l1 l2 ds d t rt ∧ Wf t ∧ Few t ∧ n ∈ t.kn ∧ ∀ p l, H p = none → (match t.grp n with | none => l = [] | some g => Srt (t.me g) l) → Q (.ref p) (upd H p (.lst (l.map V.int)))
section
variable {P : Program} {w : World} {K : PySem.W.Frag} {mg : Str → Option Value} {base : Heap} {CM CT CW : Addr} {f : Addr} {fd : FuncData} {k : Nat}
theorem ok_told (F : Fun K "told" "World.told" sTold f fd) (cW : Cn K CW woN) (cT : Cn K CT tbN) (cM : Cn K CM mtN) (Mo : MT P w K mg base 1 CT "mount" ["self", "number"] (spMount CT CM)) (Ki : MT P w K mg base 1 CM "kind" ["self", "masters"] (spKindM CT CM)) : FnOk P w K mg base CX0 (k + 2) f fd ["self", "number"] (spTold CW CT CM) := by
  obtain ⟨fM, fdM, mM, FM, bM⟩ := Mo
  obtain ⟨fK, fdK, mK, FK, bK⟩ := Ki
  refine F.ok scTold (fun vs H Q E h => ?_) (fun cdv A outer s H vs Q E hr h => ?_)
  · obtain ⟨x, dx, fi, l1, l2, ds, d, t, rt, n, rfl, _⟩ := h
    rfl
  · obtain ⟨x, dx, fi, l1, l2, ds, d, t, rt, n, rfl, W, wf, ln, q⟩ := h
    have hr1 : Room 1 (cxOf CX0 P w K mg base ["self", "number", "mount", "kind"] "World.told" (defScope sTold) f cdv A outer s H E).nox.A := hr.mono (by omega)
    refine ⟨_, pss_cons (ps_set (i := 2) scTold.nd rfl (.inl rfl) (pe_meth (pe_fld (pv 0) rfl) cT.cl mM FM hr1 bM .nil pass0 (pa_cons (pv 1) pa_nil)))
      (pss_cons (ps_set (i := 3) scTold.nd rfl (.inl rfl) (pe_meth (pv 2) cM.cl mK FK hr1 bK .nil pass0 (pa_cons (pe_fld (pe_fld (pv 0) rfl) rfl) pa_nil)))
      (pss_one (ps_ret (pe_tup (pa_cons (pe_fld (pv 2) rfl) (pa_cons (pe_fld (pv 2) rfl) (pa_cons (pe_fld (pv 2) rfl) (pa_cons (pe_fld (pv 2) rfl) (pa_cons (pe_fld (pv 2) rfl) (pa_cons (pv 3) (pa_cons (pe_fld (pv 2) rfl) pa_nil))))))))))), ?_⟩
    have hT := W.ta.all .tab trivial
    have hm := W.ta.all (.mt n) ln
    refine ⟨_, rfl, x, CW, dx, _, .ref (d.a .tab), rfl, W.hx, cW.cl, cW.no _ (by decide +kernel), rfl, d.a .tab, d.dT, _, rfl, hT, rfl, _, rfl, d, t, n, rfl, W.ta, ln, ?_⟩
    refine ⟨_, rfl, d.a (.mt n), d.dm n, _, rfl, hm, rfl, _, rfl, x, CW, dx, _, .ref (d.a .tab), rfl, W.hx, cW.cl, cW.no _ (by decide +kernel), rfl, d.a .tab, CT, d.dT, _, .ref (d.a .ms), rfl, hT, cT.cl, cT.no _ (by decide +kernel), rfl, d, t, n, rfl, W.ta, ln, fun g hg => (wf.gr n ln g hg).1, ?_⟩
    refine ⟨_, rfl, d.a (.mt n), CM, d.dm n, _, .int (t.mn n).sp, rfl, hm, cM.cl, cM.no _ (by decide +kernel), rfl, _, rfl, d.a (.mt n), CM, d.dm n, _, .str (t.mn n).tr, rfl, hm, cM.cl, cM.no _ (by decide +kernel), rfl, _, rfl, d.a (.mt n), CM, d.dm n, _, (t.mn n).rv, rfl, hm, cM.cl, cM.no _ (by decide +kernel), rfl, _, rfl, d.a (.mt n), CM, d.dm n, _, oi (t.mn n).pa, rfl, hm, cM.cl, cM.no _ (by decide +kernel), rfl, _, rfl, d.a (.mt n), CM, d.dm n, _, (t.mn n).pv, rfl, hm, cM.cl, cM.no _ (by decide +kernel), rfl, _, rfl, _, rfl, d.a (.mt n), CM, d.dm n, _, .bl (t.mn n).lo, rfl, hm, cM.cl, cM.no _ (by decide +kernel), rfl, by show 7 ≤ sizeLine; decide, fun p hp => q p hp⟩
theorem keys_dk (l : List Int) (g : Int → V) : (dk l g).map (·.1) = l.map (Sum.inl : Int → Key) := by
  unfold dk
  rw [List.map_map]
  rfl
theorem ok_peers (F : Fun K "peers" "World.peers" sPeers f fd) (B' : Bi mg) (cW : Cn K CW woN) (cT : Cn K CT tbN) (cM : Cn K CM mtN) (Mo : MT P w K mg base 1 CT "mount" ["self", "number"] (spMount CT CM)) : FnOk P w K mg base CX0 (k + 2) f fd ["self", "number"] (spPeers CW CT CM) := by
  obtain ⟨fM, fdM, mM, FM, bM⟩ := Mo
  refine F.ok scPeers (fun vs H Q E h => ?_) (fun cdv A outer s H vs Q E hr h => ?_)
  · obtain ⟨x, dx, fi, l1, l2, ds, d, t, rt, n, rfl, _⟩ := h
    rfl
  · obtain ⟨x, dx, fi, l1, l2, ds, d, t, rt, n, rfl, W, wf, few, ln, q⟩ := h
    have hr1 : Room 1 (cxOf CX0 P w K mg base ["self", "number", "mount"] "World.peers" (defScope sPeers) f cdv A outer s H E).nox.A := hr.mono (by omega)
    have hu := units1 hr1
    refine ⟨_, pss_cons (ps_set (i := 2) scPeers.nd rfl (.inl rfl) (pe_meth (pe_fld (pv 0) rfl) cT.cl mM FM hr1 bM .nil pass0 (pa_cons (pv 1) pa_nil)))
      (pss_one (ps_ret (pe_ifExp (pt_cmpR op_isN (pe_fld (pv 2) rfl) pe_non (nomark _)) (pe_lst (pa_cons (pv 1) pa_nil)) (pe_callB (call_sortedDI rfl) (by rfl) B'.sorted (by decide +kernel) (pa_cons (pe_dget hu (pe_fld (pe_fld (pv 0) rfl) rfl) (pe_fld (pv 2) rfl) (fun _ _ => rfl)) pa_nil))))), ?_⟩
    have hT := W.ta.all .tab trivial
    have hm := W.ta.all (.mt n) ln
    refine ⟨_, rfl, x, CW, dx, _, .ref (d.a .tab), rfl, W.hx, cW.cl, cW.no _ (by decide +kernel), rfl, d.a .tab, d.dT, _, rfl, hT, rfl, _, rfl, d, t, n, rfl, W.ta, ln, ?_⟩
    refine ⟨_, rfl, d.a (.mt n), CM, d.dm n, _, oi (t.mn n).gr, rfl, hm, cM.cl, cM.no _ (by decide +kernel), rfl, rfl, _, rfl, ?_⟩
    cases eg : (t.mn n).gr with
    | none => exact iteT ⟨_, rfl, by show 1 ≤ sizeLine; decide, fun p hp => q p [n] hp (by rw [eg])⟩
    | some g =>
      have lg := (wf.gr n ln g eg).1
      have lb : g ∈ t.gb := by rw [wf.gb]; exact lg
      have hg : DGet H (d.a .mb) (.int g) (some (.ref (d.a (.me g)))) := by
        have := DGet.k (k := (Sum.inl g : Key)) (W.ta.all .mb trivial)
        rw [val_dk lb] at this
        exact this
      refine iteF ⟨_, rfl, x, CW, dx, _, .ref (d.a .tab), rfl, W.hx, cW.cl, cW.no _ (by decide +kernel), rfl, d.a .tab, CT, d.dT, _, .ref (d.a .mb), rfl, hT, cT.cl, cT.no _ (by decide +kernel), rfl, _, rfl, d.a (.mt n), CM, d.dm n, _, oi (t.mn n).gr, rfl, hm, cM.cl, cM.no _ (by decide +kernel), rfl, d.a .mb, _, rfl, by rw [eg]; exact hg, d.a (.me g), _, t.me g, rfl, .inl (W.ta.all (.me g) lb), keys_dk _ _, few g lg, ?_⟩
      exact fun ys p hy1 hy2 hp => q p ys hp (by rw [eg]; exact ⟨hy1, hy2⟩)
theorem ok_followed (F : Fun K "followed" "World.followed" sFollowed f fd) (B' : Bi mg) (cW : Cn K CW woN) (cT : Cn K CT tbN) (cM : Cn K CM mtN) (Mo : MT P w K mg base 1 CT "mount" ["self", "number"] (spMount CT CM)) : FnOk P w K mg base CX0 (k + 2) f fd ["self", "number"] (spFollowed CW CT CM) := by
  obtain ⟨fM, fdM, mM, FM, bM⟩ := Mo
  refine F.ok scFollowed (fun vs H Q E h => ?_) (fun cdv A outer s H vs Q E hr h => ?_)
  · obtain ⟨x, dx, fi, l1, l2, ds, d, t, rt, n, rfl, _⟩ := h
    rfl
  · obtain ⟨x, dx, fi, l1, l2, ds, d, t, rt, n, rfl, W, wf, few, ln, q⟩ := h
    have hr1 : Room 1 (cxOf CX0 P w K mg base ["self", "number", "mount", "group"] "World.followed" (defScope sFollowed) f cdv A outer s H E).nox.A := hr.mono (by omega)
    have hu := units1 hr1
    refine ⟨_, pss_cons (ps_set (i := 2) scFollowed.nd rfl (.inl rfl) (pe_meth (pe_fld (pv 0) rfl) cT.cl mM FM hr1 bM .nil pass0 (pa_cons (pv 1) pa_nil)))
      (pss_cons (ps_set (i := 3) scFollowed.nd rfl (.inl rfl) (pe_ifExp (pt_cmpR op_isN (pe_fld (pv 2) rfl) pe_non (nomark _)) (pe_fld (pv 2) rfl) (pe_dget hu (pe_fld (pe_fld (pv 0) rfl) rfl) (pe_fld (pv 2) rfl) (fun _ _ => rfl))))
      (pss_one (ps_ret (pe_ifExp (pt_cmpR op_isN (pv 3) pe_non (nomark _)) (pe_lst pa_nil) (pe_callB (call_sortedDI rfl) (by rfl) B'.sorted (by decide +kernel) (pa_cons (pe_dget hu (pe_fld (pe_fld (pv 0) rfl) rfl) (pv 3) (fun _ _ => rfl)) pa_nil)))))), ?_⟩
    have hT := W.ta.all .tab trivial
    have hm := W.ta.all (.mt n) ln
    refine ⟨_, rfl, x, CW, dx, _, .ref (d.a .tab), rfl, W.hx, cW.cl, cW.no _ (by decide +kernel), rfl, d.a .tab, d.dT, _, rfl, hT, rfl, _, rfl, d, t, n, rfl, W.ta, ln, ?_⟩
    refine ⟨_, rfl, d.a (.mt n), CM, d.dm n, _, oi (t.mn n).gr, rfl, hm, cM.cl, cM.no _ (by decide +kernel), rfl, rfl, _, rfl, ?_⟩
    have mg' : ∀ g, g ∈ t.gm → DGet H (d.a .mb) (.int g) (some (.ref (d.a (.me g)))) := fun g lg => by
      have := DGet.k (k := (Sum.inl g : Key)) (W.ta.all .mb trivial)
      rw [val_dk (by rw [wf.gb]; exact lg)] at this
      exact this
    have fin : ∀ g, t.grp n = some g → g ∈ t.gm → ∀ (ys : List Int) (p : Addr), ys.Perm (t.me g) → ys.Pairwise (· ≤ ·) → H p = none → Q (.ref p) (upd H p (.lst (ys.map V.int))) := fun g e _ ys p a1 a2 hp => q p ys hp (by rw [e]; exact ⟨a1, a2⟩)
    have nil : t.grp n = none → ∀ p, H p = none → Q (.ref p) (upd H p (.lst [])) := fun e p hp => q p [] hp (by rw [e])
    have hat : ∀ g, g ∈ t.gm → H (d.a (.me g)) = some (set1 (t.me g)) := fun g lg => W.ta.all (.me g) (show g ∈ t.gb by rw [wf.gb]; exact lg)
    unfold Tb.grp at fin nil
    cases eg : (t.mn n).gr with
    | none =>
      rw [eg] at fin nil
      refine iteT ⟨_, rfl, d.a (.mt n), CM, d.dm n, _, oi (t.mn n).fo, rfl, hm, cM.cl, cM.no _ (by decide +kernel), rfl, _, rfl, rfl, _, rfl, ?_⟩
      cases ef : (t.mn n).fo with
      | none => exact iteT ⟨by show 0 ≤ sizeLine; decide, fun p hp => nil ef p hp⟩
      | some g =>
        have lg := (wf.fo n ln g ef).1
        exact iteF ⟨_, rfl, x, CW, dx, _, .ref (d.a .tab), rfl, W.hx, cW.cl, cW.no _ (by decide +kernel), rfl, d.a .tab, CT, d.dT, _, .ref (d.a .mb), rfl, hT, cT.cl, cT.no _ (by decide +kernel), rfl, _, rfl, d.a .mb, _, rfl, mg' g lg, d.a (.me g), _, t.me g, rfl, .inl (hat g lg), keys_dk _ _, few g lg, fin g ef lg⟩
    | some g0 =>
      have lg0 := (wf.gr n ln g0 eg).1
      rw [eg] at fin nil
      have hms : DGet H (d.a .ms) (.int g0) (some (oi (t.ms g0))) := by
        have := DGet.k (k := (Sum.inl g0 : Key)) (W.ta.all .ms trivial)
        rw [val_dk lg0] at this
        exact this
      refine iteF ⟨_, rfl, x, CW, dx, _, .ref (d.a .tab), rfl, W.hx, cW.cl, cW.no _ (by decide +kernel), rfl, d.a .tab, CT, d.dT, _, .ref (d.a .ms), rfl, hT, cT.cl, cT.no _ (by decide +kernel), rfl, _, rfl, d.a (.mt n), CM, d.dm n, _, oi (t.mn n).gr, rfl, hm, cM.cl, cM.no _ (by decide +kernel), rfl, d.a .ms, _, rfl, by rw [eg]; exact hms, _, rfl, rfl, _, rfl, ?_⟩
      cases ef : t.ms g0 with
      | none => exact iteT ⟨by show 0 ≤ sizeLine; decide, fun p hp => nil ef p hp⟩
      | some g =>
        have lg := (wf.ms g0 lg0 g ef).1
        exact iteF ⟨_, rfl, x, CW, dx, _, .ref (d.a .tab), rfl, W.hx, cW.cl, cW.no _ (by decide +kernel), rfl, d.a .tab, CT, d.dT, _, .ref (d.a .mb), rfl, hT, cT.cl, cT.no _ (by decide +kernel), rfl, _, rfl, d.a .mb, _, rfl, mg' g lg, d.a (.me g), _, t.me g, rfl, .inl (hat g lg), keys_dk _ _, few g lg, fin g ef lg⟩
end
end Rp
set_option autoImplicit true
set_option Elab.async false
set_option linter.all false
set_option maxRecDepth 100000
set_option maxHeartbeats 8000000
namespace Rp
open PySem PySem.Spec PyProof.Rows L2 Cm Ob Tx LamX
/-! World.__init__: the table as it begins -/
section
variable {CT CM : Addr} {H H' : Hp} {d : Ad} {t : Tb}
theorem TabAt.updCs {o : HO} (h : TabAt CT CM H d t) (b : But (d.a .ct) H H') (h0 : H' (d.a .ct) = some (.dK (cnt t.cm t.cg (t.cs + 1)))) : TabAt CT CM H' d { t with cs := t.cs + 1 } ∧ Fr H d t H' d { t with cs := t.cs + 1 } :=
  h.mut (r0 := .ct) (t' := { t with cs := t.cs + 1 }) (fun r => by cases r <;> exact Iff.rfl) trivial b h0 (fun r _ hr => by cases r <;> first | rfl | exact absurd rfl hr)
theorem TabAt.addTp {n v : Int} {o : HO} (h : TabAt CT CM H d t) (hn : n ∉ t.ts) (ho : o = .dK (putK (dk t.ts fun n => .int (t.tp n)) (Sum.inl n) (.int v))) : TabAt CT CM (upd H (d.a .tp) o) d { t with ts := t.ts ++ [n], tp := fu t.tp n v } ∧ Fr H d t (upd H (d.a .tp) o) d { t with ts := t.ts ++ [n], tp := fu t.tp n v } :=
  h.mut (r0 := .tp) (t' := { t with ts := t.ts ++ [n], tp := fu t.tp n v }) (fun r => by cases r <;> exact Iff.rfl) trivial But.upd (by
    rw [upd_same, ho, put_dk_new hn]
    exact congrArg some (congrArg HO.dK (by rw [fu_map (F := V.int)]))) (fun r _ hr => by cases r <;> first | rfl | exact absurd rfl hr)
theorem TabAt.addOw {n v : Int} {o : HO} (h : TabAt CT CM H d t) (hn : n ∉ t.os) (ho : o = .dK (putK (dk t.os fun n => .int (t.ow n)) (Sum.inl n) (.int v))) : TabAt CT CM (upd H (d.a .ow) o) d { t with os := t.os ++ [n], ow := fu t.ow n v } ∧ Fr H d t (upd H (d.a .ow) o) d { t with os := t.os ++ [n], ow := fu t.ow n v } :=
  h.mut (r0 := .ow) (t' := { t with os := t.os ++ [n], ow := fu t.ow n v }) (fun r => by cases r <;> exact Iff.rfl) trivial But.upd (by
    rw [upd_same, ho, put_dk_new hn]
    exact congrArg some (congrArg HO.dK (by rw [fu_map (F := V.int)]))) (fun r _ hr => by cases r <;> first | rfl | exact absurd rfl hr)
end
def tb0 (tr : Addr) (mo : Int) : Tb := ⟨.ref tr, mo, [], fun _ => mn0 0 "" .non, [], fun _ => [], [], fun _ => 0, [], fun _ => 0, [], fun _ => none, [], fun _ => [], [], fun _ => [], 0, 0, 0⟩
def tbA (tr : Addr) (mo : Int) (z : Str) (rt : Addr) : Tb := (tb0 tr mo).newM 0 z (.ref rt)
def tbB (tr : Addr) (mo : Int) (z : Str) (rt : Addr) : Tb := { tbA tr mo z rt with cs := (tbA tr mo z rt).cs + 1 }
def tbC (tr : Addr) (mo : Int) (z : Str) (rt : Addr) : Tb := (tbB tr mo z rt).setM 0 { (tbB tr mo z rt).mn 0 with st := .int 0 }
def tbD (tr : Addr) (mo : Int) (z : Str) (rt : Addr) : Tb := { tbC tr mo z rt with ts := (tbC tr mo z rt).ts ++ [0], tp := fu (tbC tr mo z rt).tp 0 0 }
def tbE (tr : Addr) (mo : Int) (z : Str) (rt : Addr) : Tb := { tbD tr mo z rt with os := (tbD tr mo z rt).os ++ [0], ow := fu (tbD tr mo z rt).ow 0 0 }
def ad0 (T dT kn pl tp ow ms mb bh ct : Addr) : Ad := ⟨fun r => match r with | .tab => T | .kn => kn | .pl => pl | .tp => tp | .ow => ow | .ms => ms | .mb => mb | .bh => bh | .ct => ct | _ => 0, dT, fun _ => 0⟩
theorem tab0 {CT CM : Addr} {H0 H : Hp} {x CW dx dd : Addr} {trs : List (Key × V)} {z : Str} {mo : Int} {l1 l2 T dT tr ct kn pl tp ow ms mb bh : Addr} (G : GT5 H0 x CW dx dd trs z mo CT H l1 l2 T dT tr ct [kn, pl, tp, ow, ms, mb, bh]) :
    TabAt CT CM H (ad0 T dT kn pl tp ow ms mb bh ct) (tb0 tr mo) ∧ ∀ r, live (tb0 tr mo) r → H0 ((ad0 T dT kn pl tp ow ms mb bh ct).a r) = none ∧ (ad0 T dT kn pl tp ow ms mb bh ct).a r ≠ x := by
  obtain ⟨b, hx, n1, n2, nT, nr, len, nd, nu, nc, cd, rd, rc, _⟩ := G
  simp only [List.nodup_cons, List.mem_cons, List.not_mem_nil, or_false, not_or] at nu cd
  obtain ⟨⟨k1, k2, k3, k4, k5, k6⟩, ⟨q2, q3, q4, q5, q6⟩, ⟨t3, t4, t5, t6⟩, ⟨o4, o5, o6⟩, ⟨u5, u6⟩, v6, _, _⟩ := nu
  obtain ⟨c0, c1, c2, c3, c4, c5, c6⟩ := cd
  have Nk := nd kn (by simp)
  have Np := nd pl (by simp)
  have Nt := nd tp (by simp)
  have No' := nd ow (by simp)
  have Ns := nd ms (by simp)
  have Nb := nd mb (by simp)
  have Nh := nd bh (by simp)
  have tk : ∀ {e : Addr} {kv}, H e = some (.dK kv) → T ≠ e := fun h => ne_of nT.2.2 h (by intro z; cases z)
  have w1 := tk Nk.2.2
  have w2 := tk Np.2.2
  have w3 := tk Nt.2.2
  have w4 := tk No'.2.2
  have w5 := tk Ns.2.2
  have w6 := tk Nb.2.2
  have w7 := tk Nh.2.2
  have w8 := tk nc.2.2
  refine ⟨⟨fun r l => ?_, fun r r' l l' e => ?_⟩, fun r l => ?_⟩
  · cases r with
    | tab => exact nT.2.2
    | kn => exact Nk.2.2
    | pl => exact Np.2.2
    | tp => exact Nt.2.2
    | ow => exact No'.2.2
    | ms => exact Ns.2.2
    | mb => exact Nb.2.2
    | bh => exact Nh.2.2
    | ct => exact nc.2.2
    | _ => cases l
  · cases r <;> cases r' <;> first | rfl | (cases l; done) | (cases l'; done) | exact absurd e ‹_› | exact absurd e.symm ‹_›
  · cases r with
    | tab => exact ⟨nT.1, nT.2.1⟩
    | kn => exact ⟨Nk.1, Nk.2.1⟩
    | pl => exact ⟨Np.1, Np.2.1⟩
    | tp => exact ⟨Nt.1, Nt.2.1⟩
    | ow => exact ⟨No'.1, No'.2.1⟩
    | ms => exact ⟨Ns.1, Ns.2.1⟩
    | mb => exact ⟨Nb.1, Nb.2.1⟩
    | bh => exact ⟨Nh.1, Nh.2.1⟩
    | ct => exact ⟨nc.1, nc.2.1⟩
    | _ => cases l
section
variable {P : Program} {w : World} {K : PySem.W.Frag} {mg : Str → Option Value} {base : Heap} {f : Addr} {cdv : Value} {A : Around} {outer : List Env} {s : Shared} {H0 : Hp} {E : XK} {CW CT CM CR x dx d : Addr} {kvs : List (Key × V)} {es : List (Str × Bool)} {z : Str} {mo : Int}
theorem hW6 (C : WoC P w K mg base CW CT CM CR) (NM : MT P w K mg base 3 CT "new_mount" ["self", "space", "tree", "root"] (spNM CT CM)) (W : WArg H0 CW CR x dx d kvs es z mo) (hr : Room 6 (XWo P w K mg base f cdv A outer s H0 E).A) (R : Hp → Prop) (hR : ∀ H' l1 l2 d' tr rt, But x H0 H' → H0 l1 = none → WAt CW CT CM H' x dx (.str z) l1 l2 [] d' (tbE tr mo z rt) rt → R H') : HoS (XWo P w K mg base f cdv A outer s H0 E) [stW 6, stW 7, stW 8, stW 9] (GW5 H0 x CW dx d z mo CT) (fun _ H => R H) := by
  obtain ⟨fN, fdN, mN, FN, bN⟩ := NM
  obtain ⟨fX, fdX, mX, FX, bX⟩ := C.next
  have hu := units1 hr
  refine ⟨_, pss_cons (ps_set (i := 4) scWoI.nd rfl (.inl rfl) (pe_meth (pe_fld (pv 0) rfl) C.cT.cl mN FN (hr.mono (by decide)) bN .nil pass0 (pa_cons pe_int (pa_cons (pv 2) (pa_cons (pe_tup pa_nil) pa_nil)))))
    (pss_cons (ps_fld (pv 4) (pe_meth (pe_fld (pv 0) rfl) C.cT.cl mX FX (hr.mono (by decide)) bX .nil pass0 (pa_cons pe_str pa_nil)) rfl)
    (pss_cons (ps_dput hu (pe_fld (pe_fld (pv 0) rfl) rfl) pe_int (pe_fld (pv 4) rfl) rfl)
    (pss_one (ps_dput hu (pe_fld (pe_fld (pv 0) rfl) rfl) pe_int pe_int rfl)))), ?_⟩
  rintro D0 σ H ⟨rfl, l1, l2, T, dT, tr, ct, ds, trs, G⟩ q
  have len := G.len
  match ds, len with
  | [kn, pl, tp, ow, ms, mb, bh], _ =>
  obtain ⟨hA, hN⟩ := tab0 (CM := CM) G
  generalize hd0 : ad0 T dT kn pl tp ow ms mb bh ct = d0 at hA hN
  have eT : d0.a .tab = T := by rw [← hd0]; rfl
  have hx := G.hx
  rw [← eT] at hx
  have hT := hA.all .tab trivial
  have ox : Out d0 (tb0 tr mo) x := fun r l e => (hN r l).2 e.symm
  have o0 : ∀ b o, H0 b = some o → Out d0 (tb0 tr mo) b := fun b o h r l e => by
    rw [e, (hN r l).1] at h
    cases h
  refine ⟨_, rfl, x, CW, dx, _, .ref (d0.a .tab), rfl, hx, C.cW.cl, C.cW.no _ (by decide +kernel), rfl, d0.a .tab, d0.dT, _, rfl, hT, rfl, _, rfl, by show 0 ≤ sizeLine; decide, fun rt hrt => ?_⟩
  have s1 := same_new (o := HO.tup []) hrt
  have hrt1 : upd H rt (.tup []) rt = some (.tup []) := upd_same
  generalize hH1 : upd H rt (.tup []) = H1 at s1 hrt1 ⊢
  have hA1 := hA.same s1
  refine ⟨d0, tb0 tr mo, 10, 0, z, .ref rt, rfl, hA1, ⟨by decide, by show 0 ≤ 10; decide, by show 0 ≤ 10; decide, by show 0 ≤ 10; decide, by show 0 ≤ 10; decide, by show 0 ≤ 10; decide, by show 0 ≤ 10; decide, by show 0 ≤ 10; decide, fun g => by show 0 ≤ 10; decide, fun g => by show 0 ≤ 10; decide⟩, by show (0 : Int) ∉ []; simp, by show (0 : Int) ∉ []; simp, fun H2 d2 h2 f2 ex nm => ?_⟩
  have F2 : Fr H d0 (tb0 tr mo) H2 d2 (tbA tr mo z rt) := (Fr.same hA s1).trans f2
  have e2 : d2.a .tab = d0.a .tab := ex.a .tab (by intro h; cases h) (by intro h; cases h)
  obtain ⟨hx2, ox2⟩ := F2 _ _ hx ox
  have h2 : TabAt CT CM H2 d2 (tbA tr mo z rt) := h2
  have hT2 := h2.all .tab trivial
  have l0 : (0 : Int) ∈ (tbA tr mo z rt).kn := by show (0 : Int) ∈ ([] : List Int) ++ [0]; simp
  have hm2 := h2.all (.mt 0) l0
  rw [← e2] at hx2
  refine ⟨_, rfl, x, CW, dx, _, .ref (d2.a .tab), rfl, hx2, C.cW.cl, C.cW.no _ (by decide +kernel), rfl, d2.a .tab, d2.dT, _, rfl, hT2, rfl, d2.a .tab, d2.dT, _, d2.a .ct, cnt 1 0 0, "stem", 0, rfl, hT2, rfl, h2.all .ct trivial, rfl, by show 3 ≤ 100; decide, fun H3 b3 hc3 => ?_⟩
  obtain ⟨h3, f3⟩ := h2.updCs (o := .dK []) b3 hc3
  have h3 : TabAt CT CM H3 d2 (tbB tr mo z rt) := h3
  obtain ⟨hx3, ox3⟩ := f3 _ _ hx2 ox2
  have hm3 := h3.all (.mt 0) l0
  refine ⟨_, rfl, d2.a (.mt 0), CM, d2.dm 0, _, rfl, hm3, C.cM.cl, C.cM.no _ (by decide +kernel), by show 11 < 1000; decide, ?_⟩
  obtain ⟨h4, f4⟩ := h3.updM (n := 0) (m := { (tbB tr mo z rt).mn 0 with st := .int 0 }) (o := .ins CM (d2.dm 0) (putF "stem" (.int 0) (mnF 0 ((tbB tr mo z rt).mn 0)))) l0 rfl
  generalize hH4 : upd H3 (d2.a (.mt 0)) (.ins CM (d2.dm 0) (putF "stem" (.int 0) (mnF 0 ((tbB tr mo z rt).mn 0)))) = H4 at h4 f4 ⊢
  have h4 : TabAt CT CM H4 d2 (tbC tr mo z rt) := h4
  obtain ⟨hx4, ox4⟩ := f4 _ _ hx3 ox3
  have hT4 := h4.all .tab trivial
  have hm4 := h4.all (.mt 0) l0
  refine ⟨_, rfl, d2.a (.mt 0), CM, d2.dm 0, _, .int 0, rfl, hm4, C.cM.cl, C.cM.no _ (by decide +kernel), rfl, _, rfl, x, CW, dx, _, .ref (d2.a .tab), rfl, hx4, C.cW.cl, C.cW.no _ (by decide +kernel), rfl, d2.a .tab, CT, d2.dT, _, .ref (d2.a .tp), rfl, hT4, C.cT.cl, C.cT.no _ (by decide +kernel), rfl, d2.a .tp, _, rfl, DPut.k (k := (Sum.inl 0 : Key)) (kvs := []) (h4.all .tp trivial) (by decide), ?_⟩
  obtain ⟨h5, f5⟩ := h4.addTp (n := 0) (v := 0) (o := .dK (putK [] (Sum.inl 0 : Key) (.int 0))) (by show (0 : Int) ∉ []; simp) rfl
  generalize hH5 : upd H4 (d2.a .tp) (.dK (putK [] (Sum.inl 0 : Key) (.int 0))) = H5 at h5 f5 ⊢
  have h5 : TabAt CT CM H5 d2 (tbD tr mo z rt) := h5
  obtain ⟨hx5, ox5⟩ := f5 _ _ hx4 ox4
  have hT5 := h5.all .tab trivial
  refine ⟨_, rfl, x, CW, dx, _, .ref (d2.a .tab), rfl, hx5, C.cW.cl, C.cW.no _ (by decide +kernel), rfl, d2.a .tab, CT, d2.dT, _, .ref (d2.a .ow), rfl, hT5, C.cT.cl, C.cT.no _ (by decide +kernel), rfl, d2.a .ow, _, rfl, DPut.k (k := (Sum.inl 0 : Key)) (kvs := []) (h5.all .ow trivial) (by decide), ?_⟩
  obtain ⟨h6, f6⟩ := h5.addOw (n := 0) (v := 0) (o := .dK (putK [] (Sum.inl 0 : Key) (.int 0))) (by show (0 : Int) ∉ []; simp) rfl
  generalize hH6 : upd H5 (d2.a .ow) (.dK (putK [] (Sum.inl 0 : Key) (.int 0))) = H6 at h6 f6 ⊢
  have h6 : TabAt CT CM H6 d2 (tbE tr mo z rt) := h6
  obtain ⟨hx6, ox6⟩ := f6 _ _ hx5 ox5
  have F6 : Fr H1 d0 (tb0 tr mo) H6 d2 (tbE tr mo z rt) := f2.trans (f3.trans (f4.trans (f5.trans f6)))
  have hl1 := (F6 _ _ (s1 _ _ G.n1.2.2) (hA1.outOf (s1 _ _ G.n1.2.2) fun r h => by cases r <;> cases h)).1
  have hl2 := (F6 _ _ (s1 _ _ G.n2.2.2) (hA1.outOf (s1 _ _ G.n2.2.2) fun r h => by cases r <;> cases h)).1
  have hrt6 := (F6 _ _ hrt1 (hA1.outOf hrt1 fun r => ob_ntup r [])).1
  refine q _ _ (hR H6 l1 l2 d2 tr rt (fun b o hbx hb => ?_) G.n1.1 ⟨hx6, hl1, hl2, h6, ⟨hrt6, fun n hn => ?_, rfl, fun n hn => ?_⟩, ?_⟩)
  · have hbH := G.b b o hbx hb
    exact (F6 _ _ (s1 _ _ hbH) (o0 b o hb)).1
  · have hn : n ∈ ([] : List Int) ++ [0] := hn
    have e : n = 0 := by simpa using hn
    subst e
    rfl
  · have hn : n ∈ ([] : List Int) ++ [0] := hn
    have e : n = 0 := by simpa using hn
    subst e
    rfl
  · exact G.nl
end
def spWoI (CW CT CM CR : Addr) : Sp := fun vs H Q _ => ∃ x dx d kvs es z mo, vs = [.ref x, .ref d, .str z, .int mo] ∧ WArg H CW CR x dx d kvs es z mo ∧ ∀ H' l1 l2 d' tr rt, But x H H' → H l1 = none → WAt CW CT CM H' x dx (.str z) l1 l2 [] d' (tbE tr mo z rt) rt → Q .non H'
section
variable {P : Program} {w : World} {K : PySem.W.Frag} {mg : Str → Option Value} {base : Heap} {f : Addr} {fd : FuncData} {CW CT CM CR : Addr}
theorem ok_woI {dvs : List V} (F : FunD K "__init__" "World.__init__" (defArgs sWoI) (defBody sWoI) (defScope sWoI) dvs [] f fd) (B : Bi mg) (C : WoC P w K mg base CW CT CM CR) (NM : MT P w K mg base 3 CT "new_mount" ["self", "space", "tree", "root"] (spNM CT CM)) : FnOk P w K mg base CX0 7 f fd ["self", "trees", "first", "most"] (spWoI CW CT CM CR) := by
  refine F.ok scWoI (fun vs H Q E h => ?_) (fun cdv A outer s H vs Q E hr h => ?_)
  · obtain ⟨x, dx, d, kvs, es, z, mo, rfl, _⟩ := h
    rfl
  · obtain ⟨x, dx, d, kvs, es, z, mo, rfl, W, q⟩ := h
    have hr' : Room 6 (XWo P w K mg base f cdv A outer s H E).A := hr
    obtain ⟨t, ht, hq⟩ : HoS (XWo P w K mg base f cdv A outer s H E) [stW 0, stW 1, stW 2, stW 3, stW 4, stW 5, stW 6, stW 7, stW 8, stW 9] (Fd (sW0 x d z mo none) H x CW dx [] 0) (fun _ H' => Q .non H') := by
      refine HoS.cons (hWo0 C W hr') (HoS.cons (hWo1 C W hr') (HoS.cons ?_ (HoS.cons (hWo3 C) (HoS.cons (hWo4 C) (HoS.cons (hWo5 C B W hr') (hW6 C NM W hr' (fun H' => Q .non H') q))))))
      exact ho_fld (i := 0) (v := .str z) (pv 0) rfl (pv 2) (fun H Q h => ⟨_, rfl, h⟩) C.cW.cl (C.cW.no _ (by decide +kernel)) (by decide) rfl
    rw [bodyWoI]
    exact ⟨t, PSs.nox (X := cxOf CX0 P w K mg base nWo "World.__init__" (defScope sWoI) f cdv A outer s H E) ht, hq _ _ _ ⟨rfl, But.refl _ _, W.hx, Nat.le_refl _⟩ fun σ' H' z => z⟩
end
end Rp
set_option autoImplicit true
set_option Elab.async false
set_option linter.all false
set_option maxRecDepth 100000
set_option maxHeartbeats 4000000
/-! lambdas without parameters as values: made, kept, handed to a def that calls them -/
namespace LmB
open PySem PySem.Spec PyProof.Rows L2 LamX NdefX
/-- a lambda's words (the body beside): an NF without statements -/
abbrev LF (qual : Str) (params : Arguments) (scope : Scope) (cl : List (Str × Addr)) (c : Addr) : NF := ⟨"<lambda>", qual, params, [], scope, cl, c⟩
def LamO (f : Addr) (F : NF) (body : Expr) : HO := .ext fun h => ∃ pm ctv, h.get? f = some (PySem.W.kla_obj "<lambda>" F.qual F.params body F.scope F.cl pm F.c ctv)
theorem lamO_ne {f : Addr} {F : NF} {b : Expr} (ps : Array Value) : LamO f F b ≠ .tbl ps := fun z => by
  unfold LamO at z
  cases z
theorem lamO_at {P : Program} {w : World} {H : Hp} {h : Heap} {f : Addr} {F : NF} {b : Expr} (hok : HOk P w H h) (e : H f = some (LamO f F b)) : ∃ pm ctv, h.get? f = some (PySem.W.kla_obj "<lambda>" F.qual F.params b F.scope F.cl pm F.c ctv) := by
  obtain ⟨z, _, _⟩ := hok f _ e
  exact z
section
variable {X : Cx} {pins : List (Addr × Obj)} {σ : L2.St} {H : Hp} {s : Shared}
theorem inv_lam {F : NF} {b : Expr} {o : Obj} {t' : Nat} {pm ctv : Value} (I : Inv X pins σ H s) (ho : o = PySem.W.kla_obj "<lambda>" F.qual F.params b F.scope F.cl pm F.c ctv) :
    Inv X pins σ (upd H s.heap.objs.size (LamO s.heap.objs.size F b)) { s with heap := s.heap.push o, toks := t' } := by
  subst ho
  refine I.laid (a := s.heap.objs.size) (fun b u e => Heap.get?_push_of_some _ e) (Nat.le_refl _) ?_
  have e : (s.heap.push (PySem.W.kla_obj "<lambda>" F.qual F.params b F.scope F.cl pm F.c ctv)).get? s.heap.objs.size = some (PySem.W.kla_obj "<lambda>" F.qual F.params b F.scope F.cl pm F.c ctv) := Heap.get?_push_size _ rfl
  exact ⟨⟨pm, ctv, e⟩, ⟨_, e⟩, fun h1 h2 ⟨p, t, z⟩ st => ⟨p, t, st _ z⟩⟩
/-- the lambda is made: known from now on -/
theorem lam_makeO {T : List (Addr × Str)} {c P : Addr} {params : Arguments} {body : Expr} {scope : Scope} {pos : Pos} {E : Value → Shared → Prop} {Q : Value → Shared → Prop} (I : Inv X pins σ H s) (TB : TabB X.base X.mg c P) (hcode : X.env.code = .ref c)
    (hm : (P, X.env.qual ++ "<lambda>") ∈ T) (hu : ∀ p ∈ T, p.1 = P → p.2 = X.env.qual ++ "<lambda>") (hT : Tabs T H) (hdef : defaultsOf params X.env = ([], [])) (hfree : ∀ y ∈ scope.names, y.2 = .free → ∃ c, X.env.cells.lookup y.1 = some c)
    (h : ∀ (f c' : Addr) (H1 : Hp) (s' : Shared), Inv X pins σ H1 s' → ExtN H H1 → Tabs T H1 → H f = none → H1 f = some (LamO f (LF (X.env.qual ++ "<lambda>") params scope (cloFrom X.env.cells scope.names []) c') body) → H1 c' = some (CodeO c' (X.env.qual ++ "<lambda>")) → Q (.ref f) s') :
    wpAny (model X.prog X.w) X.A (eval (.Lambda params body scope pos) X.env) Q E s := by
  obtain ⟨ps, hP, ht, ha⟩ := hT _ hm
  refine PySem.W.kla_eval hdef ?_
  have bP : s.heap.BuiltinsAt X.mg P := TB.bm.keeps I.bk
  have hP' : s.heap.get? P = some { cls := .none, data := .fields ps } := I.hok P _ hP
  cases hc : codeAmong pos ps.toList with
  | none =>
    refine PySem.W.kla_makeFunction (mg := X.mg) (c := c) (P := P) (ps := ps) (closure_ok hfree) I.ok.glob (I.mod.glob.keeps I.bk) hcode (TB.code.keeps I.bk) hP' ht hc TB.gP bP fun c' ctv h' tk hx hge hlt hrec htb => ?_
    obtain ⟨c2, oc, vs, t, e2, hoc, hd, hv⟩ := hrec
    cases e2
    have nC : H c' = none := I.hok.fresh hge
    have I1 := inv_table (t' := tk) (more := #[rawInt pos.line, rawInt pos.col, .ref c']) (h' := h') (q := X.env.qual ++ "<lambda>") I hP (fun b o hb e => hx b o hb e) htb hge ⟨oc, vs, t, hoc, hd, hv⟩
    have hE : ExtN H (upd (upd H P (.tbl (ps ++ #[rawInt pos.line, rawInt pos.col, .ref c']))) c' (CodeO c' (X.env.qual ++ "<lambda>"))) := fun b o e n => by
      rw [upd_ne (ne_of_none e nC), upd_ne (fun z => n ps (Option.some.inj (e.symm.trans (by rw [z]; exact hP))))]
      exact e
    have eL : (ps ++ #[rawInt pos.line, rawInt pos.col, .ref c']).toList = ps.toList ++ [rawInt pos.line, rawInt pos.col, .ref c'] := by simp
    have T1 : Tabs T (upd (upd H P (.tbl (ps ++ #[rawInt pos.line, rawInt pos.col, .ref c']))) c' (CodeO c' (X.env.qual ++ "<lambda>"))) := fun p hp => by
      by_cases hb : p.1 = P
      · rw [hu p hp hb, hb]
        refine ⟨_, by rw [upd_ne (ne_of_none hP nC), upd_same], by rw [eL]; exact PySem.TriplesOk_snoc _ _ _ _ ht, fun p' cv hcv => ?_⟩
        rw [eL] at hcv
        rcases among_app _ ht hcv with z | z
        · obtain ⟨c0, e1, e2⟩ := ha p' cv z
          exact ⟨c0, e1, hE _ _ e2 codeO_ne⟩
        · exact ⟨c', z, upd_same⟩
      · obtain ⟨ps', a1, a2, a3⟩ := hT p hp
        refine ⟨ps', by rw [upd_ne (ne_of_none a1 nC), upd_ne hb]; exact a1, a2, fun p' cv hcv => ?_⟩
        obtain ⟨c0, e1, e2⟩ := a3 p' cv hcv
        exact ⟨c0, e1, hE _ _ e2 codeO_ne⟩
    have nF := I1.hok.fresh (Nat.le_refl _)
    have I2 := inv_lam (F := LF (X.env.qual ++ "<lambda>") params scope (cloFrom X.env.cells scope.names []) c') (b := body) (t' := tk) (pm := (X.mg "__name__").getD .none) (ctv := ctv) I1 rfl
    refine h h'.objs.size c' _ _ I2 (fun b o e n => ?_) (T1.ext fun b o e => ?_) (I.hok.fresh (Nat.le_trans hge (Nat.le_of_lt hlt))) upd_same ?_
    · have e1 := hE b o e n
      exact (upd_ne (ne_of_none e1 nF)).trans e1
    · exact (upd_ne (ne_of_none e nF)).trans e
    · exact (upd_ne (Nat.ne_of_lt hlt)).trans upd_same
  | some cv =>
    obtain ⟨c', e, hco⟩ := ha pos cv hc
    subst e
    refine PySem.W.kla_makeFunctionHit (mg := X.mg) (c := c) (P := P) (ps := ps) (closure_ok hfree) I.ok.glob (I.mod.glob.keeps I.bk) hcode (TB.code.keeps I.bk) hP' ht hc bP fun ctv h' tk hx hsz => ?_
    have I1 : Inv X pins σ H { s with heap := h', toks := tk } := I.kept hx
    have nF : H h'.objs.size = none := I1.hok.fresh (Nat.le_refl _)
    have I2 := inv_lam (F := LF (X.env.qual ++ "<lambda>") params scope (cloFrom X.env.cells scope.names []) c') (b := body) (t' := tk) (pm := (X.mg "__name__").getD .none) (ctv := ctv) I1 rfl
    refine h h'.objs.size c' _ _ I2 (fun b o e n => ?_) (hT.ext fun b o e => ?_) nF upd_same ?_
    · exact (upd_ne (ne_of_none e nF)).trans e
    · exact (upd_ne (ne_of_none e nF)).trans e
    · exact (upd_ne (ne_of_none hco nF)).trans hco
end
/-- a lambda of these words stands at v -/
def LamAt (mk : Addr → NF) (body : Expr) (H : Hp) (v : V) : Prop := ∃ f c', v = .ref f ∧ (mk c').c = c' ∧ H f = some (LamO f (mk c') body) ∧ H c' = some (CodeO c' (mk c').qual)
theorem LamAt.ext {mk : Addr → NF} {body : Expr} {H H' : Hp} {v : V} (h : LamAt mk body H v) (e : ExtN H H') : LamAt mk body H' v := by
  obtain ⟨f, c', h1, h0, h2, h3⟩ := h
  exact ⟨f, c', h1, h0, e _ _ h2 lamO_ne, e _ _ h3 codeO_ne⟩
def tLamO (T : List (Addr × Str)) (mk : Addr → NF) (body : Expr) : TE := fun σ H Q => Tabs T H ∧ ∀ v H1, ExtN H H1 → Tabs T H1 → LamAt mk body H1 v → Q v H1
/-- lambda: body, as a value -/
theorem pe_lam {X : Cx} {T : List (Addr × Str)} {c P : Addr} {params : Arguments} {body : Expr} {scope : Scope} {pos : Pos} (TB : TabB X.base X.mg c P) (hcode : X.env.code = .ref c) (hm : (P, X.env.qual ++ "<lambda>") ∈ T) (hu : ∀ p ∈ T, p.1 = P → p.2 = X.env.qual ++ "<lambda>") (hdef : defaultsOf params X.env = ([], [])) (L : LamS X.env.scope scope) :
    PE X (.Lambda params body scope pos) (tLamO T (LF (X.env.qual ++ "<lambda>") params scope (cloFrom X.env.cells scope.names [])) body) :=
  ⟨fun pins s σ H Q I ⟨hT, h⟩ => lam_makeO I TB hcode hm hu hT hdef (L.has I.ok) fun f c' H1 s' I1 e T1 _ hf hc => ⟨.ref f, H1, I1, rfl, h _ H1 e T1 ⟨f, c', rfl, rfl, hf, hc⟩⟩⟩
/-! ### what a lambda promises -/
/-- sp ws: ws what the captured cells hold at the call -/
abbrev LSp : Type := List (Option V) → Hp → VK → XK → Prop
structure LOk (P : Program) (w : World) (K : PySem.W.Frag) (mg : Str → Option Value) (base : Heap) (CX : CXT) (k : Nat) (f : Addr) (F : NF) (body : Expr) (fr : List Str) (sp : LSp) : Prop where
  run : ∀ (A : Around) (outer : List Env) (s : Shared) (H : Hp) (ws : List (Option V)) (Q : VK) (E : XK), Room k A → Env0 P w K mg base A outer s H → H f = some (LamO f F body) → H F.c = some (CodeO F.c F.qual) →
    CellsAt F.cl fr ws s.heap H → sp ws H Q E → codeAny (model P w) A (.call (.ref f) ⟨[], []⟩) (CR CX outer P w H s Q E) s
theorem startF_ws {fr : List Str} {ws : List (Option V)} (h : ws.length = fr.length) : startF fr [] ws = ws := by
  unfold startF
  simp [h]
theorem lok_of {CX : CXT} {P : Program} {w : World} {K : PySem.W.Frag} {mg : Str → Option Value} {base : Heap} {fr : List Str} {F : NF} {body : Expr} {f : Addr} {k : Nat} {sp : LSp} (S : NScope fr [] fr F.scope) (hb : ∀ (pm cv ctv : Value), bindArgs (PySem.W.kla_fn "<lambda>" F.qual F.params body F.scope F.cl pm cv ctv) ⟨[], []⟩ = pure [])
    (hbody : ∀ (A : Around) (outer : List Env) (s : Shared) (H : Hp) (ws : List (Option V)) (Q : VK) (E : XK), Room k (A.deeper (envF F f s.heap.objs.size)) → ws.length = fr.length → sp ws H Q E → ∃ t, PE (ncx CX P w K mg base fr F f A outer s H E) body t ∧ t ws H Q) :
    LOk P w K mg base CX (k + 1) f F body fr sp := by
  refine ⟨fun A outer s H ws Q E hr e0 hf hc C hsp => ?_⟩
  have lim : s.heap.NoLimit := e0.mod.nolimit.keeps fun b o e => (e0.bs b o e).1
  obtain ⟨pm, ctv, ho⟩ := lamO_at e0.hok hf
  refine PySem.W.kla_callFunE hr.depth ho rfl S.co S.gen rfl (codeO_at e0.hok hc) ?_
  rw [hb pm (.ref F.c) ctv]
  refine wpAny_pure (wpAny_newFunctionEnv S.nocell (fun y hy => absurd hy (by simp)) (fun h₁ hns hsb => ⟨lim.fresh _ hsb, ?_⟩) S.kind)
  show codeAny _ _ (.expr body (envF F f s.heap.objs.size)) _ _
  have kp : ∀ b o, s.heap.get? b = some o → h₁.get? b = some o := fun b o e => hsb.extBut b o (Nat.ne_of_lt (Heap.lt_size e)) (Heap.get?_push_of_some _ e)
  obtain ⟨t, ht, hq⟩ := hbody A outer s H ws Q E (hr.deeper _) C.len hsp
  have I : Inv (ncx CX P w K mg base fr F f A outer s H E) [] (startF fr [] ws) H { s with heap := h₁, toks := s.toks + ([] : List (Str × Value)).length } := inv_startN (ps := []) (us := []) S hr.hd e0 rfl .nil C hns kp
  rw [startF_ws C.len] at I
  refine PySem.W.kla_codeExpr (wpAny_mono (ht.run [] _ ws H Q I hq) (fun v s' hq => ?_) fun e s' hq => hq)
  obtain ⟨w', H', J', rv, q⟩ := hq
  exact ⟨w', H', J'.os, J'.bare, J'.base, J'.hok, rv, q⟩
/-- a(), in the def that got the lambda -/
theorem pe_act3 {Z : Cx} {CX : CXT} {f : Addr} {F : NF} {body : Expr} {fr : List Str} {ws : List (Option V)} {sp : LSp} {k i : Nat} {a : Str} {E : L2.St → XK} {p1 p2 : Pos} (L : LOk Z.prog Z.w Z.K Z.mg Z.base CX k f F body fr sp) (C : CellsAt F.cl fr ws Z.s_0.heap Z.H_0) (nf : ∀ y c, F.cl.lookup y = some c → c ∉ Z.fs) (nx : ∀ y c, F.cl.lookup y = some c → c ∉ Z.ex) (hr : Room k Z.A) (hx : ∀ σ, PassesAt CX Z σ (E σ)) (hN : Z.N[i]? = some a) (hv : Vis Z.env.scope a) (hd : (a == ("__debug__" : Str)) = false := by decide) (hcd : (a == ("__classdict__" : Str)) = false := by decide) :
    PE Z (.Call (.Name a p1) [] [] p2) (fun σ H Q => σ[i]? = some (some (.ref f)) ∧ H f = some (LamO f F body) ∧ H F.c = some (CodeO F.c F.qual) ∧ sp ws H Q (E σ)) := by
  refine ⟨fun pins s σ H Q I h => ?_⟩
  obtain ⟨hs, hf, hc, q⟩ := h
  refine wpAny_Call_Name_kw (thn ((pe_var (pos := p1) (i := i) hN hv hd hcd).run pins s σ H (fun v H1 => v = .ref f ∧ H1 = H) I ⟨.ref f, hs, rfl, rfl⟩) fun u s1 ⟨v, H1, I1, r1, q1⟩ => ?_)
  obtain ⟨ev, eH⟩ := q1
  subst ev
  rw [eH] at I1
  obtain rfl : u = Value.ref f := r1
  obtain ⟨pm, ctv, ho⟩ := lamO_at I1.hok hf
  refine PySem.W.callWith_F0 (first := []) ⟨_, _, _, _, ho⟩ ?_
  show wpAny _ _ (call (.ref f) []) _ _ _
  refine wpAny_call (codeAny_mono (L.run Z.A Z.stack s1 H ws Q (E σ) hr I1.env0 hf hc (C.later nf nx I1) q) fun r s' hq => ?_)
  cases r with
  | error e => exact hx σ pins H s1 e s' I1 hq
  | ok fl =>
    cases fl with
    | ret u => exact I1.after hq
    | next => exact False.elim hq
    | brk => exact False.elim hq
    | cont => exact False.elim hq
/-! ### a def that gets a lambda -/
/-- what a def makes of the lambda that it gets: TT, of the lambda's promise -/
abbrev TTp : Type := (Hp → VK → XK → Prop) → Hp → VK → Prop
structure GOk (P : Program) (w : World) (K : PySem.W.Frag) (mg : Str → Option Value) (base : Heap) (k j : Nat) (x : Str) (TT : TTp) : Prop where
  ex : ∃ g : Addr, mg x = some (.ref g) ∧ PySem.W.keepIn K (.ref g) = true ∧ ∀ (A : Around) (outer : List Env) (s : Shared) (H : Hp) (f : Addr) (F : NF) (body : Expr) (fr : List Str) (ws : List (Option V)) (sp : LSp) (Q : VK) (E : XK), Room j A → Env0 P w K mg base A outer s H → H f = some (LamO f F body) → H F.c = some (CodeO F.c F.qual) →
    CellsAt F.cl fr ws s.heap H → (∀ y c, F.cl.lookup y = some c → c ∉ frs outer) → LOk P w K mg base (L2.CX P w) k f F body fr sp → TT (sp ws) H Q → codeAny (model P w) A (.call (.ref g) ⟨[.ref f], []⟩) (CR CX0 outer P w H s Q E) s
/-- the cells at every state of a context -/
def CellC (Y : Cx) (cl : List (Str × Addr)) (fr : List Str) (ws : L2.St → List (Option V)) : Prop := ∀ pins σ H s, Inv Y pins σ H s → CellsAt cl fr (ws σ) s.heap H ∧ ∀ y c, cl.lookup y = some c → c ∉ frs Y.stack
theorem cellC_own {X : Cx} {cl : List (Str × Addr)} {fr : List Str} {js : List Nat} (cp : X.Ok → Caps X cl fr js) (hfn : ∀ y, X.fn y = true) : CellC X cl fr (fun σ => js.map (slotAt σ)) := fun pins σ H s I => by
  refine ⟨cells_of I (cp I.ok), fun y c e hb => ?_⟩
  have ec := (cp I.ok).sub y c e
  rcases List.mem_cons.mp (I.stkSub c hb) with z | z
  · exact I.cne y c ec z
  · obtain ⟨_, o, ho, _⟩ := I.ok.funs.mem z
    exact absurd (Nat.lt_of_lt_of_le (Heap.lt_size ho) (I.ok.cab y c (hfn y) ec)) (Nat.lt_irrefl _)
theorem cellC_blk {X : Cx} {cl : List (Str × Addr)} {fr : List Str} {js : List Nat} {pins : List (Addr × Obj)} {σ : L2.St} {H : Hp} {s : Shared} {scope : Scope} {ce : Env} {fp : List Addr} (cp : X.Ok → Caps X cl fr js) (hfn : ∀ y, X.fn y = true) (I : Inv X pins σ H s) (hfp : ∀ b ∈ fp, ∀ x c, X.env.cells.lookup x = some c → c ≠ b) :
    CellC (X.blk s H scope ce fp) cl fr (fun _ => js.map (slotAt σ)) := fun pins' σ' H' s' I' => by
  obtain ⟨C, hn⟩ := cellC_own cp hfn pins σ H s I
  refine ⟨CellsAt.later (X := X.blk s H scope ce fp) C hn (fun y c e hb => ?_) I', hn⟩
  exact hfp c hb y c ((cp I.ok).sub y c e) rfl
/-- x(e), e a lambda of one of the kinds ls -/
structure LKind where
  nf : Addr → NF
  body : Expr
  sp : LSp
def tGive (cl : List (Str × Addr)) (ls : List LKind) (ws : L2.St → List (Option V)) (TT : TTp) (te : TE) : TE := fun σ H Q => te σ H fun v0 H1 => ∃ v, [v0] = [v] ∧ ∃ l ∈ ls, (∀ c, (l.nf c).cl = cl) ∧ LamAt l.nf l.body H1 v ∧ TT (l.sp (ws σ)) H1 Q
theorem pe_give {Y : Cx} {cl : List (Str × Addr)} {fr : List Str} {ls : List LKind} {ws : L2.St → List (Option V)} {TT : TTp} {x : Str} {k j : Nat} {te : TE} {ea : Expr} {p pos : Pos} (G : GOk Y.prog Y.w Y.K Y.mg Y.base k j x TT) (hg : Gl Y x) (C : CellC Y cl fr ws) (hr : Room j Y.A) (L : ∀ l ∈ ls, ∀ f c, LOk Y.prog Y.w Y.K Y.mg Y.base (L2.CX Y.prog Y.w) k f (l.nf c) l.body fr l.sp) (ha : PE Y ea te)
    (hdb : (x == ("__debug__" : Str)) = false := by decide) (he : starEach [ea] Y.env = (false, eval ea Y.env) :: starEach [] Y.env := by rfl) : PE Y (.Call (.Name x p) [ea] [] pos) (tGive cl ls ws TT te) := by
  refine ⟨fun pins s σ H Q I h => ?_⟩
  obtain ⟨g, hm, hk, run⟩ := G.ex
  refine wpAny_Call_Name_kw (ld_glob I hg hm ?_ hdb)
  refine PySem.W.callWith_K (h₀ := Y.base) I.ok.mod.kin hk ?_ he (by rfl)
  refine thn ((pa_cons (hs := he) ha pa_nil).run pos pins s σ H (fun vs H1 => ∃ v, vs = [v] ∧ ∃ l ∈ ls, (∀ c, (l.nf c).cl = cl) ∧ LamAt l.nf l.body H1 v ∧ TT (l.sp (ws σ)) H1 Q) I h) fun us s2 ⟨vs, H2, I2, r, v, ev, l, hl, hcl, ⟨f, c', e1, e0, hf, hc⟩, q2⟩ => ⟨I2.kIn, ?_⟩
  subst ev
  subst e1
  obtain ⟨u, us', rfl, ru, r'⟩ : ∃ u us', us = u :: us' ∧ RelV (.ref f) u ∧ Vals [] us' := by
    cases r with
    | cons a b => exact ⟨_, _, rfl, a, b⟩
  cases r'
  obtain rfl : u = Value.ref f := ru
  obtain ⟨CA, nf⟩ := C pins σ H2 s2 I2
  have hc2 : H2 (l.nf c').c = some (CodeO (l.nf c').c (l.nf c').qual) := by rw [e0]; exact hc
  refine wpAny_call (codeAny_mono (run Y.A Y.stack s2 H2 f (l.nf c') l.body fr (ws σ) l.sp Q (fun _ _ _ => False) hr I2.env0 hf hc2 (by rw [hcl c']; exact CA) (by rw [hcl c']; exact nf) (L l hl f c') q2) fun r s' hq => ?_)
  cases r with
  | error e => exact (show False from hq).elim
  | ok fl =>
    cases fl with
    | ret u => exact I2.after hq
    | next => exact False.elim hq
    | brk => exact False.elim hq
    | cont => exact False.elim hq
end LmB
namespace LmB
open PySem PySem.Spec PyProof.Rows L2 LamX NdefX
section
variable {X : Cx}
/-- a list comprehension whose element leans on the def's own cells: its rule is asked where the def's state holds -/
theorem lc_coreI {pins : List (Addr × Obj)} {s : Shared} {σ : L2.St} {H : Hp} {Q : VK} {elt tg iter : Expr} {ifs : List Expr} {scope : Scope} {own : List (Str × Nat)} {pos pos' : Pos} {wi : TI} {g : TG} {tt : TT} {te : TE} {use : Option (Value → Sem Unit)} {Qf : Value → Shared → Prop}
    (hc : X.calm = true) (hN : X.N.Nodup) (I : Inv X pins σ H s) (hi : PI X tg iter wi) (ok : BlkOk X.N X.env.scope scope own)
    (hg : ∀ (s : Shared) (H : Hp) (C : Addr) (cl : List (Str × Addr)) (fp : List Addr), PG (X.blk s H scope (compEnvC scope cl C X.env) fp) tg g) (ht : ∀ (s : Shared) (H : Hp) (C : Addr) (cl : List (Str × Addr)) (fp : List Addr), PTs (X.blk s H scope (compEnvC scope cl C X.env) fp) ifs tt)
    (he : ∀ (s : Shared) (H : Hp) (C : Addr) (cl : List (Str × Addr)) (fp : List Addr), Inv X pins σ H s → (∀ b ∈ fp, ∀ x c, X.env.cells.lookup x = some c → c ≠ b) → PE (X.blk s H scope (compEnvC scope cl C X.env) fp) elt te) (hs : ∀ x, foldedSetIterable iter X.env x = pure x)
    (h : tLc wi g tt te (own.map (·.2)) σ H Q)
    (hRR : ∀ D C s' m H', Inv X pins σ H' s' → Q (.ref D) H' → s'.heap.Ns C m → FpOk X pins H' C → compPost (model X.prog X.w) X.A X.xe use Qf (.ref D) C (.ok .next) s') :
    wpAny (model X.prog X.w) X.A (comprehension (.ListComp elt [⟨tg, iter, ifs, 0⟩] scope pos) scope X.env pos' (newList []) false (eval iter X.env) use) Qf X.xe s := by
  have hfree : ∀ y ∈ scope.names, y.2 = .free → ∃ c, X.env.cells.lookup y.1 = some c := fun y hy e => (ok.free y hy e).elim (fun k => I.ok.has _ (.inl k)) fun k => I.ok.has _ (.inr k)
  refine wpAny_comprehension_free (use := use) rfl hs (closure_ok hfree) ok.kind (fun y hy e => by rw [ok.uniq y hy, e])
    (thn (hi.run pins s σ H _ I h) fun xv s1 hx => thn hx fun itv s2 h2 => ?_)
  obtain ⟨it, fp, tn, J, H2, e, I2, T, st2, f2, q⟩ := h2
  subst e
  refine wpAny_newObj_type (newEnv_comp ?_) (by show 0 ≤ sizeLine; decide)
  generalize hD : s2.heap.objs.size = D
  have hDn : H2 D = none := I2.hok.fresh (Nat.le_of_eq hD)
  obtain ⟨W, ⟨m0, w0⟩, turn⟩ := q D hDn
  generalize hs3 : ({ s2 with heap := s2.heap.push { cls := .type "list", data := .seq ([] : List Value).toArray } } : Shared) = s3
  have I3 : Inv X pins σ (upd H2 D (.lst [])) s3 := by
    rw [← hs3]
    refine I2.laid (t' := s2.toks) (fun b o e => Heap.get?_push_of_some _ e) (Nat.le_of_eq hD) ⟨Nat.zero_le _, [], 0, .nil, ?_⟩
    rw [← hD]
    exact Heap.get?_push_size _ rfl
  have h3 : s3.heap = s2.heap.push { cls := .type "list", data := .seq ([] : List Value).toArray } := by rw [← hs3]
  have sz : ∀ b ∈ fp, b < s2.heap.objs.size := fun b hb => by
    obtain ⟨o, e, _⟩ := T.obj _ _ st2 b hb
    exact Heap.lt_size e
  have f3 : ∀ b ∈ fp, FpOk X pins (upd H2 D (.lst [])) b ∧ b < s3.heap.objs.size := fun b hb => by
    have hlt := sz b hb
    refine ⟨⟨?_, (f2 b hb).2⟩, by rw [h3, Heap.size_push]; exact Nat.lt_succ_of_lt hlt⟩
    rw [upd_ne (by rw [← hD]; exact Nat.ne_of_lt hlt)]
    exact (f2 b hb).1
  have st3 : tn 0 s3.heap := T.keep _ _ _ st2 fun b _ o e => by rw [h3]; exact Heap.get?_push_of_some _ e
  have I4 := block_start I3 ok hN f3
  have pg := hg s3 (upd H2 D (.lst [])) s3.heap.objs.size (cellsFrom (s3.heap.objs.size + 1) scope.names (cloFrom X.env.cells scope.names [])) fp
  have pt := ht s3 (upd H2 D (.lst [])) s3.heap.objs.size (cellsFrom (s3.heap.objs.size + 1) scope.names (cloFrom X.env.cells scope.names [])) fp
  have pe := he s3 (upd H2 D (.lst [])) s3.heap.objs.size (cellsFrom (s3.heap.objs.size + 1) scope.names (cloFrom X.env.cells scope.names [])) fp I3 fun b hb x c ec => (f3 b hb).1.2.2.2.2.1 x c ec
  show codeAny _ _ (.compStart (.ListComp elt [⟨tg, iter, ifs, 0⟩] scope pos) 0 (.ref it) (.ref D) (compEnvC scope (cellsFrom (s3.heap.objs.size + 1) scope.names (cloFrom X.env.cells scope.names [])) s3.heap.objs.size X.env)) (compPost (model X.prog X.w) X.A X.xe use Qf (.ref D) s3.heap.objs.size) { s3 with heap := pushCells (s3.heap.push { cls := .type "dict", data := .dict #[] }) scope.names }
  have nfp : ∀ b ∈ fp, (upd H2 D (.lst [])) b = none := fun b hb => (f3 b hb).1.1
  generalize hce : compEnvC scope (cellsFrom (s3.heap.objs.size + 1) scope.names (cloFrom X.env.cells scope.names [])) s3.heap.objs.size X.env = ce at I4 pg pt pe ⊢
  have cL : ce.locals = s3.heap.objs.size := by subst hce; rfl
  generalize hH3 : upd H2 D (.lst []) = H3 at I3 I4 pg pt pe w0 nfp f3
  generalize hs4 : ({ s3 with heap := pushCells (s3.heap.push { cls := .type "dict", data := .dict #[] }) scope.names } : Shared) = s4 at I4 ⊢
  have st4 : tn 0 s4.heap := T.keep _ _ _ st3 fun b _ o e => by rw [← hs4]; exact pushCells_keeps _ _ _ _ (Heap.get?_push_of_some _ e)
  have stat : ∀ {σ' : L2.St} {H' : Hp} {s' : Shared}, Inv (X.blk s3 H3 scope ce fp) [] σ' H' s' → (∀ b ∈ fp, H' b = none) → ∀ b ∈ fp, FpOk (X.blk s3 H3 scope ce fp) [] H' b := fun {σ' H' s'} I' hn b hb =>
    ⟨hn b hb, (I'.ok.exf b hb).1, I'.ok.exfs b hb, .inl hb, fun x c e => (I'.ok.exf b hb).2 x c e, fun p hp => absurd (show p ∈ ([] : List (Addr × Obj)) ++ [] from hp) (by simp)⟩
  have loop : codeAny (model X.prog X.w) X.A (.compLoop (.ListComp elt [⟨tg, iter, ifs, 0⟩] scope pos) 0 (.ref it) (.ref D) ce) (compPost (model X.prog X.w) X.A X.xe use Qf (.ref D) s3.heap.objs.size) s4 := by
    refine compLoop_any (fun n s' => ∃ i H', Inv (X.blk s3 H3 scope ce fp) [] (wipe σ (own.map (·.2))) H' s' ∧ tn i s'.heap ∧ (∀ b ∈ fp, H' b = none) ∧ W i n H') ?_ m0 ⟨0, H3, I4, st4, nfp, w0⟩
    rintro n s5 ⟨i, H5, I5, st5, n5, w5⟩
    rcases turn i n H5 w5 with ⟨stop, qq⟩ | ⟨go, Nx, hNx, step⟩
    · have td := T.done (X.blk s3 H3 scope ce fp) rfl rfl rfl hc i [] s5 _ H5 (fun _ _ => False) I5 (stat I5 n5) st5 stop
      refine thnF td fun r s6 ⟨hr, I6⟩ => ?_
      subst hr
      have I7 : Inv X pins σ H5 s6 := I3.call' (ch := fp) I6.os I6.base I6.hok I6.bare fun b hb => ⟨(f3 b hb).1.2.2.2.1, (f3 b hb).1.2.1, (f3 b hb).1.2.2.2.2.1, (f3 b hb).1.2.2.2.2.2⟩
      have nC : H5 s3.heap.objs.size = none := by
        have z : H5 ce.locals = none := I6.free
        rw [cL] at z
        exact z
      obtain ⟨m, hn, _⟩ := I6.loc
      have hn : s6.heap.Ns ce.locals m := hn
      rw [cL] at hn
      exact hRR D s3.heap.objs.size s6 m H5 I7 qq hn (I3.fpOk (Nat.le_refl _) nC)
    · have ti := T.item (X.blk s3 H3 scope ce fp) rfl rfl rfl hc i [] s5 _ H5 (fun _ _ => False) I5 (stat I5 n5) st5 go
      refine thnF ti fun r s6 ⟨u, hr, h6⟩ => ?_
      subst hr
      refine thnF h6 fun _ s7 ⟨x, H7, I7, r7, y7, st7, n7⟩ => ?_
      have I7' := I7.pinned (stat I7 n7) (T.obj _ _ st7)
      refine thnF (pg.run _ s7 _ H7 x u _ I7' r7 (step x H7 y7)) fun _ s8 ⟨σ8, H8, I8, hw8, q8⟩ => ?_
      refine thnF (pt.run _ s8 σ8 H8 _ I8 q8) fun b s9 ⟨H9, I9, q9⟩ => ?_
      have fin : ∀ {s' : Shared} {H' : Hp}, Inv (X.blk s3 H3 scope ce fp) ([] ++ pinsAt fp s7.heap) σ8 H' s' → Nx H' → ∃ m, m < n ∧ ∃ i H', Inv (X.blk s3 H3 scope ce fp) [] (wipe σ (own.map (·.2))) H' s' ∧ tn i s'.heap ∧ (∀ b ∈ fp, H' b = none) ∧ W i m H' := fun {s' H'} I' nx => by
        obtain ⟨m', hm, w'⟩ := hNx H' nx
        have pin' : ∀ b ∈ fp, ∀ o, s7.heap.get? b = some o → s'.heap.get? b = some o ∧ H' b = none := fun b hb o e =>
          let z := I'.pin (b, o) (List.mem_append_right _ (List.mem_append_right _ (mem_pinsAt hb e)))
          ⟨z.1, z.2.1⟩
        have hl : (wipe σ (own.map (·.2))).length = σ8.length := by rw [← hw8, wipe_length]
        refine ⟨m', hm, i + 1, H', (I'.unpinned (pins := [])).weak hl (fun j v e => ?_), T.keep _ _ _ st7 fun b hb o e => (pin' b hb o e).1, fun b hb => ?_, w'⟩
        · rw [← hw8] at e
          exact (wipe_some e).1
        · obtain ⟨o, e, _⟩ := T.obj _ _ st7 b hb
          exact (pin' b hb o e).2
      cases b with
      | false =>
        simp only [Bool.false_eq_true, if_false] at q9 ⊢
        exact fin I9 q9
      | true =>
        simp only [if_true] at q9 ⊢
        refine thnF (pe.run _ s9 σ8 H9 _ I9 q9) fun z s10 ⟨yv, H10, I10, r10, acc, hD10, hz10, nx⟩ => ?_
        exact app_ok (X := X.blk s3 H3 scope ce fp) I10 hD10 hz10 r10 fun s11 I11 => fin I11 nx
  exact codeAny_compStart_list loop (T.self X.A 0 _ _ _ st4 loop)
theorem pe_lcI {elt tg iter : Expr} {ifs : List Expr} {scope : Scope} {own : List (Str × Nat)} {pos : Pos} {wi : TI} {g : TG} {tt : TT} {te : L2.St → TE} (hc : X.calm = true) (hN : X.N.Nodup) (hi : PI X tg iter wi) (ok : BlkOk X.N X.env.scope scope own)
    (hg : ∀ (s : Shared) (H : Hp) (C : Addr) (cl : List (Str × Addr)) (fp : List Addr), PG (X.blk s H scope (compEnvC scope cl C X.env) fp) tg g) (ht : ∀ (s : Shared) (H : Hp) (C : Addr) (cl : List (Str × Addr)) (fp : List Addr), PTs (X.blk s H scope (compEnvC scope cl C X.env) fp) ifs tt)
    (he : ∀ (σ : L2.St) (pins : List (Addr × Obj)) (s : Shared) (H : Hp) (C : Addr) (cl : List (Str × Addr)) (fp : List Addr), Inv X pins σ H s → (∀ b ∈ fp, ∀ x c, X.env.cells.lookup x = some c → c ≠ b) → PE (X.blk s H scope (compEnvC scope cl C X.env) fp) elt (te σ)) (hs : ∀ x, foldedSetIterable iter X.env x = pure x := by intro _; rfl) :
    PE X (.ListComp elt [⟨tg, iter, ifs, 0⟩] scope pos) (fun σ H Q => tLc wi g tt (te σ) (own.map (·.2)) σ H Q) := by
  refine ⟨fun pins s σ H Q I h => ?_⟩
  rw [eval_ListComp]
  refine lc_coreI hc hN I hi ok hg ht (he σ pins) hs h fun D C s' m H' I' q hn f => ⟨m, hn, fun h'' sb => ?_⟩
  obtain ⟨f0, f1, f2, f3, f4, f5⟩ := f
  exact ⟨.ref D, H', I'.turned (t' := s'.toks) (fun b o hb e => (sb.2 b hb).trans e) f0 f1 f3 f4 f5, rfl, q⟩
end
end LmB
set_option autoImplicit true
set_option Elab.async false
set_option linter.all false
set_option maxRecDepth 100000
set_option maxHeartbeats 4000000
/-! sorted(xs, key=lambda one: one.f), xs objects of one class, the field a whole number -/
namespace LmB
open PySem PySem.Spec PyProof.Rows L2 LamX NdefX
/-- the lambda's call -/
theorem key_call {prog : Program} {w : World} {K : PySem.W.Frag} {A : Around} {s : Shared} {H : Hp} {f m c' dm C : Addr} {fs : List (Str × V)} {n : Int} {qual x fl : Str} {params : Arguments} {scope : Scope} {cl : List (Str × Addr)} {p1 p2 : Pos} {pm ctv : Value}
    (hr : A.depth < recursionLimit) (hlim : s.heap.NoLimit) (kin : K.In s.heap) (hok : HOk prog w H s.heap) (ho : s.heap.get? f = some (PySem.W.kla_obj "<lambda>" qual params (.Attribute (.Name x p1) fl p2) scope cl pm c' ctv)) (hcd : s.heap.CodeRec (.ref c') qual)
    (S : NScope [x] [x] [] scope) (hb : ∀ (v pm cv ctv : Value), bindArgs (PySem.W.kla_fn "<lambda>" qual params (.Attribute (.Name x p1) fl p2) scope cl pm cv ctv) ⟨[v], []⟩ = pure [(x, v)])
    (hab : ∀ env : Env, attributeBase (.Name x p1) fl env (eval (.Name x p1) env) = eval (.Name x p1) env)
    (hm : H m = some (.ins C dm fs)) (c : Cls K C) (na : NoAttr K C fl) (hl : fs.lookup fl = some (.int n)) (hd : (x == ("__debug__" : Str)) = false := by decide) :
    wpAny (model prog w) A (call (.ref f) [.ref m]) (PySem.W.KeyPure (.int n) s) (fun _ _ => False) s := by
  refine wpAny_call (PySem.W.kla_callFunE hr ho rfl S.co S.gen rfl hcd ?_)
  rw [hb (.ref m) pm (.ref c') ctv]
  refine wpAny_pure (wpAny_newFunctionEnv S.nocell (fun y hy => ?_) (fun h₁ hns hsb => ⟨hlim.fresh _ hsb, ?_⟩) S.kind)
  · rw [List.mem_singleton.mp hy]
    exact S.par x (by simp)
  have kp : ∀ b o, s.heap.get? b = some o → h₁.get? b = some o := fun b o e => hsb.extBut b o (Nat.ne_of_lt (Heap.lt_size e)) (Heap.get?_push_of_some _ e)
  refine PySem.W.kla_codeExpr (attr_of (hab _) (wpAny_Name (wpAny_loadName_local S.kind (S.par x (by simp)) hns (v := .ref m) ?_ ?_) hd))
  · show ([(x, Value.ref m)] : List (Str × Value)).reverse.lookup x = _
    simp
  · obtain ⟨mA, O, r, _, _, _⟩ := ins_get (hok.kept kp) hm
    obtain ⟨u, hu, ru⟩ := RelO.some_of (v := .int n) (o := mA fl) (by rw [← hl]; exact r fl)
    obtain ⟨t0, rfl⟩ : ∃ t, u = Value.int n t := ru
    exact get_map (kin.keeps kp) O (c.get fl) c.hd na hu (handed_of (v := .int n) ⟨t0, rfl⟩) ⟨h₁, _, rfl, kp, .int n t0⟩
/-- what it makes of the list of one object -/
def rSort1 (K : PySem.W.Frag) (T : List (Addr × Str)) (mk : Addr → NF) (body : Expr) (C : Addr) (fl : Str) : List V → List V → Hp → VK → Prop := fun vs zs H Q => ∃ a m dm fs n v, vs = [.ref a] ∧ zs = [v] ∧ LamAt mk body H v ∧ H a = some (.lst [.ref m]) ∧ H m = some (.ins C dm fs) ∧ fs.lookup fl = some (.int n) ∧ ∀ p, H p = none → Q (.ref p) (upd H p (.lst [.ref m]))
theorem cr_sort1 {X : Cx} {T : List (Addr × Str)} {qual x fl : Str} {params : Arguments} {scope : Scope} {cl : List (Str × Addr)} {p1 p2 : Pos} {C : Addr} (hr : Room 3 X.A) (S : NScope [x] [x] [] scope)
    (hb : ∀ (v pm cv ctv : Value), bindArgs (PySem.W.kla_fn "<lambda>" qual params (.Attribute (.Name x p1) fl p2) scope cl pm cv ctv) ⟨[v], []⟩ = pure [(x, v)]) (hab : ∀ env : Env, attributeBase (.Name x p1) fl env (eval (.Name x p1) env) = eval (.Name x p1) env)
    (c : Cls X.K C) (na : NoAttr X.K C fl) (hd : (x == ("__debug__" : Str)) = false := by decide) : CallRK X (.builtin "sorted") [Str.ofString "key"] (rSort1 X.K T (LF qual params scope cl) (.Attribute (.Name x p1) fl p2) C fl) := by
  intro pins s σ H vs zs us ws Q I r rz h
  obtain ⟨a, m, dm, fs, n, v, rfl, rfl, la, ha, hm, hl, q⟩ := h
  obtain rfl := Vals.ref1 r
  obtain ⟨f, c', rfl, _, hf, hc⟩ := la
  obtain rfl := Vals.ref1 rz
  obtain ⟨its, rv, hL, hz⟩ := I.list (SqL.of (K := X.K) ha)
  obtain ⟨u, rfl, ru⟩ := vals1 rv
  obtain rfl : u = Value.ref m := ru
  refine PySem.W.sorted_key_data (β := Int) (bs := [n]) (R := fun v _ => v = Value.ref m) (b := false) (fun i => .int i) hL.isList (.cons rfl .nil) ?_ ?_ (by show 1 ≤ sizeLine; decide) (fun i _ => ?_) (PyProof.Rows.ksk_s1 _ _) (fun _ => PyProof.Rows.ksk_l1 _ _) (fun y => PyProof.Rows.ksk_t1 f y) (fun v i hv hi h tk kp => ?_) fun out c h' tk kp nn ho hlen he => ?_
  · exact PySem.W.AllAlike.of fun _ _ => by simp [PySem.W.alike]
  · exact PySem.W.Sortable.others fun _ => ⟨(fun h => by cases h), fun _ h => by cases h⟩
  · have := hr.un
    show X.A.units + 2 + 0 < cLine
    omega
  · subst hv
    have ei : i = n := by simpa using hi
    subst ei
    have I2 : Inv X pins σ H { s with heap := h, toks := tk } := I.kept kp
    obtain ⟨pm, ctv, ho⟩ := lamO_at I2.hok hf
    exact key_call (hr.in1.in1).depth I2.nolimit I2.kIn I2.hok ho (codeO_at I2.hok hc) S hb hab hm c na hl hd
  · rw [List.mergeSort_singleton] at he
    have eo : out = [Value.ref m] := by
      cases he with
      | cons h1 h2 =>
        cases h2
        rw [h1]
    subst eo
    exact ⟨.ref _, upd H (s.heap.objs.size + 1) (.lst [.ref m]), I.laid (t' := tk) kp (Nat.le_succ _) ⟨by show 1 ≤ sizeLine; decide, [.ref m], c, .cons rfl .nil, ho⟩, rfl, q _ (I.hok.fresh (Nat.le_succ _))⟩
/-- sorted(e, key=lambda x: x.f), of a list of one object -/
def tSort1 (T : List (Addr × Str)) (C : Addr) (fl : Str) (te : TE) : TE := fun σ H Q => te σ H fun v H1 => Tabs T H1 ∧ ∃ a m dm fs n, v = .ref a ∧ H1 a = some (.lst [.ref m]) ∧ H1 m = some (.ins C dm fs) ∧ fs.lookup fl = some (.int n) ∧ ∀ H2 p, ExtN H1 H2 → Tabs T H2 → H2 p = none → Q (.ref p) (upd H2 p (.lst [.ref m]))
end LmB
set_option autoImplicit true
set_option Elab.async false
set_option linter.all false
set_option maxRecDepth 100000
set_option maxHeartbeats 8000000
namespace Rp
open PySem PySem.Spec PyProof.Rows L2 Cm Ob Tx LamX
/-! do_clone: the mounts of a namespace -/
abbrev nDC : List Str := ["table", "space", "trusted", "some", "new", "copies", "mount", "copy"]
theorem scDC : FnScope nDC ["table", "space", "trusted"] (defScope sDoClone) := ⟨rfl, rfl, rfl, by decide +kernel, rfl, by decide +kernel, by decide +kernel⟩
def stDC (i : Nat) : Stmt := (defBody sDoClone).getD i (.Pass ⟨0, 0, 0, 0⟩)
theorem bodyDC : defBody sDoClone = [stDC 0, stDC 1, stDC 2, stDC 3, stDC 4, stDC 5, stDC 6, stDC 7, stDC 8] := rfl
abbrev XDC (P : Program) (w : World) (K : PySem.W.Frag) (mg : Str → Option Value) (base : Heap) (f : Addr) (cdv : Value) (A : Around) (outer : List Env) (s : Shared) (H0 : Hp) (E : XK) : Cx := (cxOf CX0 P w K mg base nDC "do_clone" (defScope sDoClone) f cdv A outer s H0 E).nox
theorem filt_one {p : Int → Bool} {k0 : Int} : ∀ {l : List Int}, l.Nodup → (∀ k ∈ l, p k = true ↔ k = k0) → k0 ∈ l → l.filter p = [k0]
  | [], _, _, h => by cases h
  | a :: l, nd, hp, h => by
    have nd' := List.nodup_cons.mp nd
    by_cases e : a = k0
    · subst e
      rw [List.filter_cons_of_pos ((hp a (List.mem_cons_self ..)).mpr rfl)]
      refine congrArg (a :: ·) (List.filter_eq_nil_iff.mpr fun b hb hc => ?_)
      have := (hp b (List.mem_cons_of_mem _ hb)).mp hc
      subst this
      exact nd'.1 hb
    · have hn : ¬ p a = true := fun hc => e ((hp a (List.mem_cons_self ..)).mp hc)
      rw [List.filter_cons_of_neg hn]
      refine filt_one nd'.2 (fun k hk => hp k (List.mem_cons_of_mem _ hk)) ?_
      rcases List.mem_cons.mp h with h | h
      · exact absurd h.symm e
      · exact h
section
variable {P : Program} {w : World} {K : PySem.W.Frag} {mg : Str → Option Value} {base : Heap} {f : Addr} {cdv : Value} {A : Around} {outer : List Env} {s : Shared} {H0 : Hp} {E : XK} {CM CT : Addr} {d : Ad} {t : Tb} {n : Int} {B : Nat} {v2 : V}
theorem hD0 (cT : Cn K CT tbN) (cM : Cn K CM mtN) (h : TabAt CT CM H0 d t) (z : Sz B t) (c : Clo t n) (lt : t.tp n ∈ t.kn) : Ho (XDC P w K mg base f cdv A outer s H0 E) (stDC 0) (fun σ H => σ = [some (.ref (d.a .tab)), some (.int n), some v2, none, none, none, none, none] ∧ H = H0)
    (fun σ H => ∃ L, σ = [some (.ref (d.a .tab)), some (.int n), some v2, some (.ref L), none, none, none, none] ∧ Same H0 H ∧ H0 L = none ∧ H L = some (.lst [.ref (d.a (.mt (t.tp n)))])) := by
  refine ⟨_, ps_lock (ps_setLc (i := 3) (own := [("mount", 6)]) (g := gName 6) (tt := tTest (tOp rEq (tFld K (tVar 6) "space") (tVar 1))) (te := tVar 6) (by rfl) scDC.nd rfl rfl rfl (pi_values (pe_fld (pv 0) rfl)) (blkOk_by (own := [("mount", 6)]) (N := nDC) (sc := defScope sDoClone) (by decide +kernel)) (fun _ _ _ _ _ => pg_name (i := 6) scDC.nd rfl (Or.inl rfl)) (fun _ _ _ _ _ => pts_one (pt_cmpR op_eq (pe_fld (pv 6) rfl) (pv 1) (nomark _))) (fun _ _ _ _ _ => pv 6)), ?_⟩
  rintro D0 σ H ⟨rfl, rfl⟩ q
  refine ⟨d.a .kn, _, h.all .kn trivial, trivial, fun od => ?_⟩
  have nT : d.a .tab ≠ d.a .kn := fun e => by cases h.inj .tab .kn trivial trivial e
  have hT1 : upd H (d.a .kn) (.frz od (ob CT CM d t .kn)) (d.a .tab) = some (ob CT CM d t .tab) := by
    rw [upd_ne nT]
    exact h.all .tab trivial
  have hcut : t.kn.filter (fun k => decide ((t.mn k).sp = n)) = [t.tp n] := filt_one c.nd (fun k hk => by rw [decide_eq_true_iff]; exact c.one k hk) lt
  refine ⟨_, rfl, d.a .tab, CT, d.dT, _, .ref (d.a .kn), rfl, hT1, cT.cl, cT.no _ (by decide +kernel), rfl, d.a .kn, od, _, rfl, upd_same, fun D hD => lc_it walk_values (fun i H' => Same (upd H (d.a .kn) (.frz od (ob CT CM d t .kn))) H' ∧ H' D = some (.lst (((t.kn.take i).filter (fun k => decide ((t.mn k).sp = n))).map fun k => V.ref (d.a (.mt k))))) ⟨same_new hD, upd_same⟩ (fun i H' _ h => h.1 _ _ upd_same) ?_ ?_⟩
  · rintro i x H1 H2 hi ⟨sm, hDl⟩ ⟨rfl, kk, hy⟩
    have hi' : i < t.kn.length := by
      rw [dk_len] at hi
      exact hi
    have hn : t.kn[i]? = some t.kn[i] := List.getElem?_eq_getElem hi'
    generalize hnn : t.kn[i] = m at hn
    have ln : m ∈ t.kn := List.mem_of_getElem? hn
    have ed : (dk t.kn fun n => V.ref (d.a (.mt n)))[i]? = some (Sum.inl m, .ref (d.a (.mt m))) := by
      unfold dk
      rw [List.getElem?_map, hn]
      rfl
    rw [ed] at hy
    cases hy
    have hsrc := sm _ _ (show upd H (d.a .kn) (.frz od (ob CT CM d t .kn)) (d.a (.mt m)) = some (ob CT CM d t (.mt m)) by
      rw [upd_ne (fun e => by cases h.inj (.mt m) .kn ln trivial e)]
      exact h.all (.mt m) ln)
    refine ⟨rfl, _, rfl, d.a (.mt m), CM, d.dm m, _, .int (t.mn m).sp, rfl, hsrc, cM.cl, cM.no _ (by decide +kernel), rfl, _, rfl, rfl, _, rfl, ?_⟩
    have hl : ((t.kn.take i).filter (fun k => decide ((t.mn k).sp = n))).length ≤ B := Nat.le_trans (List.length_filter_le _ _) (by rw [List.length_take]; exact Nat.le_trans (Nat.min_le_right _ _) z.kn)
    by_cases e : (t.mn m).sp = n
    · rw [decide_eq_true (show V.int (t.mn m).sp = V.int n by rw [e])]
      refine iteT ⟨_, rfl, _, hDl, z.lt (by rw [List.length_map]; exact hl), same_mut hD sm, ?_⟩
      rw [upd_same, take_snoc hn, List.filter_append, List.map_append]
      simp [e]
    · rw [decide_eq_false (fun hv : V.int (t.mn m).sp = V.int n => e (V.int.inj hv))]
      refine iteF ⟨sm, ?_⟩
      rw [hDl, take_snoc hn, List.filter_append, List.map_append]
      simp [e]
  · rintro H1 ⟨sm, hDl⟩
    rw [dk_len, List.take_of_length_le (Nat.le_refl _), hcut] at hDl
    have nk : D ≠ d.a .kn := fun e => by
      rw [e, upd_same] at hD
      cases hD
    refine ⟨sm _ _ upd_same, q _ _ ⟨D, rfl, unlock (h.all .kn trivial) sm, ?_, ?_⟩⟩
    · rw [upd_ne nk] at hD
      exact hD
    · rw [upd_ne nk]
      exact hDl
end
end Rp
set_option autoImplicit true
set_option Elab.async false
set_option linter.all false
set_option maxRecDepth 100000
set_option maxHeartbeats 8000000
namespace Rp
open PySem PySem.Spec PyProof.Rows L2 Cm Ob Tx LamX
/-! do_clone: statements 1 to 4 -/
def Tb.clo1 (t : Tb) (n : Int) (tru : Bool) : Tb := { t with os := t.os ++ [(t.ts.length : Int)], ow := fu t.ow (t.ts.length : Int) (if tru then t.ow n else (t.ts.length : Int)) }
section
variable {P : Program} {w : World} {K : PySem.W.Frag} {mg : Str → Option Value} {base : Heap} {f : Addr} {cdv : Value} {A : Around} {outer : List Env} {s : Shared} {H0 : Hp} {E : XK} {CM CT : Addr} {d : Ad} {t : Tb} {n : Int} {B : Nat} {tru : Bool}
theorem hD1 (B' : Bi mg) (cT : Cn K CT tbN) (SR : MT P w K mg base 1 CT "sure_room" ["self", "more"] (spRoom CT CM)) (h : TabAt CT CM H0 d t) (z : Sz B t) (c : Clo t n) (lt : t.tp n ∈ t.kn) (hr : Room 6 (XDC P w K mg base f cdv A outer s H0 E).A) {rest : List Stmt} {r : VK} (R : HoR (XDC P w K mg base f cdv A outer s H0 E) rest
    (fun σ H => ∃ L Cd, σ = [some (.ref (d.a .tab)), some (.int n), some (.bl tru), some (.ref L), some (.int t.ts.length), some (.ref Cd), none, none] ∧ TabAt CT CM H d (t.clo1 n tru) ∧ Fr H0 d t H d (t.clo1 n tru) ∧ H L = some (.lst [.ref (d.a (.mt (t.tp n)))]) ∧ H Cd = some (.dK []) ∧ Out d (t.clo1 n tru) Cd ∧ H0 L = none ∧ H0 Cd = none) r) : HoR (XDC P w K mg base f cdv A outer s H0 E) (stDC 1 :: stDC 2 :: stDC 3 :: stDC 4 :: rest)
    (fun σ H => ∃ L, σ = [some (.ref (d.a .tab)), some (.int n), some (.bl tru), some (.ref L), none, none, none, none] ∧ Same H0 H ∧ H0 L = none ∧ H L = some (.lst [.ref (d.a (.mt (t.tp n)))]))
    r := by
  obtain ⟨fS, fdS, mS, FS, bS⟩ := SR
  obtain ⟨u0, hu0, hR⟩ := R
  have hu := units1 hr
  refine ⟨_, pss_cons (ps_expr (pe_meth (pv 0) cT.cl mS FS (hr.mono (by decide)) bS .nil pass0 (pa_cons (pe_callB call_len_seq (by rfl) B'.len PySem.boot_len (pa_cons (pv 3) pa_nil)) pa_nil)))
    (pss_cons (ps_set (i := 4) scDC.nd rfl (.inl rfl) (pe_callB call_lenD (by rfl) B'.len PySem.boot_len (pa_cons (pe_fld (pv 0) rfl) pa_nil)))
    (pss_cons (ps_dput hu (pe_fld (pv 0) rfl) (pv 4) (pe_ifExp (pt_val (pv 2)) (pe_dget hu (pe_fld (pv 0) rfl) (pv 1) (fun _ _ => rfl)) (pv 4)) rfl)
    (pss_cons (ps_set (i := 5) scDC.nd rfl (.inl rfl) pe_dnewK) hu0))), ?_⟩
  rintro D0 σ H ⟨L, rfl, sm, nL, hL⟩ q
  have h1 := h.same sm
  have hT := h1.all .tab trivial
  refine ⟨_, rfl, d.a .tab, d.dT, _, rfl, hT, rfl, _, rfl, L, _, rfl, .inl (SqL.of hL), d, t, B, 1, rfl, h1, z, c.room, by decide, by decide, c.most, ?_⟩
  refine ⟨_, rfl, d.a .tab, CT, d.dT, _, .ref (d.a .tp), rfl, hT, cT.cl, cT.no _ (by decide +kernel), rfl, d.a .tp, _, rfl, h1.all .tp trivial, ?_⟩
  have hlen : (((dk t.ts fun n => V.int (t.tp n)).length : Nat) : Int) = t.ts.length := by rw [dk_len]
  rw [hlen]
  have hg : DGet H (d.a .ow) (.int n) (some (.int (t.ow n))) := by
    have := DGet.k (k := (Sum.inl n : Key)) (h1.all .ow trivial)
    rw [val_dk c.os] at this
    exact this
  -- the rest, for the owner v
  have rest : ∀ v : Int, v = (if tru = true then t.ow n else (t.ts.length : Int)) → ∀ p, upd H (d.a .ow) (.dK (putK (dk t.os fun n => .int (t.ow n)) (Sum.inl (t.ts.length : Int)) (.int v))) p = none →
      u0 D0 [some (.ref (d.a .tab)), some (.int n), some (.bl tru), some (.ref L), some (.int t.ts.length), some (.ref p), none, none] (upd (upd H (d.a .ow) (.dK (putK (dk t.os fun n => .int (t.ow n)) (Sum.inl (t.ts.length : Int)) (.int v)))) p (.dK [])) := fun v ev p hp => by
    obtain ⟨h2, f2⟩ := h1.addOw (n := (t.ts.length : Int)) (v := v) (o := .dK (putK (dk t.os fun n => .int (t.ow n)) (Sum.inl (t.ts.length : Int)) (.int v))) c.nos rfl
    subst ev
    have F2 : Fr H0 d t (upd H (d.a .ow) (.dK (putK (dk t.os fun n => .int (t.ow n)) (Sum.inl (t.ts.length : Int)) (.int (if tru = true then t.ow n else (t.ts.length : Int)))))) d (t.clo1 n tru) := (Fr.same h sm).trans f2
    have hL2 := (f2 _ _ hL (h1.outOf hL fun r hh => by cases r <;> cases hh)).1
    have h2 : TabAt CT CM (upd H (d.a .ow) (.dK (putK (dk t.os fun n => .int (t.ow n)) (Sum.inl (t.ts.length : Int)) (.int (if tru = true then t.ow n else (t.ts.length : Int)))))) d (t.clo1 n tru) := h2
    generalize hH2 : upd H (d.a .ow) (.dK (putK (dk t.os fun n => .int (t.ow n)) (Sum.inl (t.ts.length : Int)) (.int (if tru = true then t.ow n else (t.ts.length : Int))))) = H2 at hp h2 f2 F2 hL2 ⊢
    have s3 := same_new (o := HO.dK []) hp
    have n0 : H0 p = none := by
      cases e : H0 p with
      | none => rfl
      | some o =>
        have hH := sm _ _ e
        by_cases ep : p = d.a .ow
        · rw [ep, h2.all .ow trivial] at hp
          cases hp
        · rw [← hH2, upd_ne ep, hH] at hp
          cases hp
    refine hR D0 _ _ ?_ q
    exact ⟨L, p, rfl, h2.same s3, F2.trans (Fr.same h2 s3), s3 _ _ hL2, upd_same, h2.out hp, nL, n0⟩
  cases etru : tru with
  | true =>
    rw [etru] at rest
    refine ⟨_, rfl, _, rfl, iteT ⟨_, rfl, d.a .tab, CT, d.dT, _, .ref (d.a .ow), rfl, hT, cT.cl, cT.no _ (by decide +kernel), rfl, _, rfl, d.a .ow, _, rfl, hg, ?_⟩⟩
    refine ⟨_, rfl, d.a .tab, CT, d.dT, _, .ref (d.a .ow), rfl, hT, cT.cl, cT.no _ (by decide +kernel), rfl, _, rfl, d.a .ow, _, rfl, DPut.k (k := (Sum.inl (t.ts.length : Int) : Key)) (h1.all .ow trivial) (z.lt (by rw [dk_len]; exact z.os)), ?_⟩
    exact fun p hp => rest _ (by simp) p hp
  | false =>
    rw [etru] at rest
    refine ⟨_, rfl, _, rfl, iteF ⟨_, rfl, ?_⟩⟩
    refine ⟨_, rfl, d.a .tab, CT, d.dT, _, .ref (d.a .ow), rfl, hT, cT.cl, cT.no _ (by decide +kernel), rfl, _, rfl, d.a .ow, _, rfl, DPut.k (k := (Sum.inl (t.ts.length : Int) : Key)) (h1.all .ow trivial) (z.lt (by rw [dk_len]; exact z.os)), ?_⟩
    exact fun p hp => rest _ (by simp) p hp
end
end Rp
set_option Elab.async false
set_option linter.all false
set_option autoImplicit false
set_option maxRecDepth 100000
set_option maxHeartbeats 8000000
namespace Rp
open PySem PySem.Spec PyProof.Rows L2 Cm Ob Tx LamX NdefX
/-! do_clone: the copies -/
theorem TabAt.ext {CT CM : Addr} {H H' : Hp} {d : Ad} {t : Tb} (h : TabAt CT CM H d t) (e : ExtN H H') : TabAt CT CM H' d t := ⟨fun r l => e _ _ (h.all r l) fun ps => ob_ntbl r ps, h.inj⟩
theorem FrN.ext {H H' : Hp} {d : Ad} {t : Tb} (e : ExtN H H') : FrN H d t H' d t := fun b o hb n q => ⟨e b o hb n, q⟩
theorem FrN.updNew {H0 H : Hp} {d d' : Ad} {t t' : Tb} {c : Addr} {o : HO} (f : FrN H0 d t H d' t') (hc : H0 c = none) : FrN H0 d t (upd H c o) d' t' := fun b u hb n q => by
  rw [upd_ne (ne_of_none hb hc)]
  exact f b u hb n q
theorem dK_ncode {l : List (Key × V)} (c : Addr) (q : Str) : (HO.dK l) ≠ CodeO c q := fun h => by
  unfold CodeO at h
  cases h
theorem ob_nlst {CT CM : Addr} {d : Ad} {t : Tb} (r : Role) (l : List V) : ob CT CM d t r ≠ .lst l := fun h => by
  cases r <;> cases h
def forIter : Stmt → Expr
  | .For _ it _ _ _ => it
  | _ => .Constant .none 0 ⟨0, 0, 0, 0⟩
def kw0 : Expr → Expr
  | .Call _ _ (k :: _) _ => k.value
  | e => e
def lamP : Expr → Arguments
  | .Lambda a _ _ _ => a
  | _ => defArgs sDoClone
def lamB : Expr → Expr
  | .Lambda _ b _ _ => b
  | e => e
def lamS : Expr → Scope
  | .Lambda _ _ s _ => s
  | _ => defScope sDoClone
def eLam : Expr := kw0 (forIter (stDC 5))
abbrev qLam : Str := Str.ofString "do_clone.<locals>." ++ Str.ofString "<lambda>"
/-- a lambda that captures nothing, as a value -/
theorem pe_lamN {X : Cx} {T : List (Addr × Str)} {c P : Addr} {params : Arguments} {body : Expr} {scope : Scope} {pos : Pos} (TB : TabB X.base X.mg c P) (hcode : X.env.code = .ref c) (hm : (P, X.env.qual ++ "<lambda>") ∈ T) (hu : ∀ p ∈ T, p.1 = P → p.2 = X.env.qual ++ "<lambda>") (hdef : defaultsOf params X.env = ([], [])) (hn : ∀ y ∈ scope.names, y.2 ≠ .free) :
    PE X (.Lambda params body scope pos) (LmB.tLamO T (LmB.LF (X.env.qual ++ "<lambda>") params scope (cloFrom X.env.cells scope.names [])) body) :=
  ⟨fun pins s σ H Q I ⟨hT, h⟩ => LmB.lam_makeO I TB hcode hm hu hT hdef (fun y hy e => absurd e (hn y hy)) fun f c' H1 s' I1 e T1 _ hf hc => ⟨.ref f, H1, I1, rfl, h _ H1 e T1 ⟨f, c', rfl, rfl, hf, hc⟩⟩⟩
theorem lamFree : ∀ y ∈ (lamS eLam).names, y.2 ≠ .free := by decide +kernel
theorem lamN : NScope ["one"] ["one"] [] (lamS eLam) := nscope_by (by decide +kernel)
section
variable {P : Program} {w : World} {K : PySem.W.Frag} {mg : Str → Option Value} {base : Heap} {f cc Pt : Addr} {A : Around} {outer : List Env} {s : Shared} {H0 : Hp} {E : XK} {CM CT : Addr} {d : Ad} {t : Tb} {n : Int} {B : Nat} {tru : Bool} {T : List (Addr × Str)}
theorem peS5 (B' : Bi mg) (cM : Cn K CM mtN) (TB : TabB base mg cc Pt) (hmT : (Pt, qLam) ∈ T) (huT : ∀ p ∈ T, p.1 = Pt → p.2 = qLam) (hr : Room 3 (XDC P w K mg base f (.ref cc) A outer s H0 E).A) :
    PE (XDC P w K mg base f (.ref cc) A outer s H0 E) (forIter (stDC 5)) (tCKw (LmB.rSort1 K T (LmB.LF qLam (lamP eLam) (lamS eLam) (cloFrom (XDC P w K mg base f (.ref cc) A outer s H0 E).env.cells (lamS eLam).names [])) (lamB eLam) CM "number") (tCons (tVar 3) tNil) (tCons (LmB.tLamO T (LmB.LF qLam (lamP eLam) (lamS eLam) (cloFrom (XDC P w K mg base f (.ref cc) A outer s H0 E).env.cells (lamS eLam).names [])) (lamB eLam)) tNil)) := by
  refine pe_callBK (LmB.cr_sort1 (T := T) (qual := qLam) (x := "one") (fl := "number") (params := lamP eLam) (scope := lamS eLam) (C := CM) hr lamN (fun _ _ _ _ => rfl) (fun _ => rfl) cM.cl (cM.no _ (by decide +kernel))) (by rfl) B'.sorted boot_sorted (pa_cons (pv 3) pa_nil) (pk_cons ?_ pk_nil)
  exact pe_lamN TB rfl hmT huT rfl lamFree
end
end Rp
set_option Elab.async false
set_option linter.all false
set_option autoImplicit false
set_option maxRecDepth 100000
set_option maxHeartbeats 8000000
namespace Rp
open PySem PySem.Spec PyProof.Rows L2 Cm Ob Tx LamX NdefX
/-! do_clone: statements 5, 6 -/
theorem clo1_sz {B : Nat} {t : Tb} (z : Sz B t) (hB : B + 1 ≤ 90000) (n : Int) (tru : Bool) : Sz (B + 1) (t.clo1 n tru) := by
  have up : ∀ {a : Nat}, a ≤ B → a ≤ B + 1 := fun h => Nat.le_succ_of_le h
  exact ⟨hB, up z.kn, up z.kp, up z.ts, by show (t.os ++ [_]).length ≤ B + 1; rw [List.length_append]; exact Nat.succ_le_succ z.os, up z.gm, up z.gb, up z.gh, fun g => up (z.me g), fun g => up (z.be g)⟩
theorem newM_sz {B : Nat} {t : Tb} (z : Sz B t) (hB : B + 1 ≤ 90000) (sp : Int) (tr : Str) (rv : V) : Sz (B + 1) (t.newM sp tr rv) := by
  have up : ∀ {a : Nat}, a ≤ B → a ≤ B + 1 := fun h => Nat.le_succ_of_le h
  exact ⟨hB, by show (t.kn ++ [_]).length ≤ B + 1; rw [List.length_append]; exact Nat.succ_le_succ z.kn, by show (t.kp ++ [_]).length ≤ B + 1; rw [List.length_append]; exact Nat.succ_le_succ z.kp, up z.ts, up z.os, up z.gm, up z.gb, up z.gh, fun g => up (z.me g), fun g => up (z.be g)⟩
theorem dget_dk {H : Hp} {a : Addr} {l : List Int} {f : Int → V} {n : Int} (h : H a = some (.dK (dk l f))) (hn : n ∈ l) : DGet H a (.int n) (some (f n)) := by
  have := DGet.k (k := (Sum.inl n : Key)) h
  rw [val_dk hn] at this
  exact this
abbrev Tb.clo2 (t : Tb) (n : Int) (tru : Bool) : Tb := (t.clo1 n tru).newM t.ts.length (t.mn (t.tp n)).tr (t.mn (t.tp n)).rv
def Tb.clo3 (t : Tb) (n : Int) (tru : Bool) : Tb := { t.clo2 n tru with ts := (t.clo2 n tru).ts ++ [(t.ts.length : Int)], tp := fu (t.clo2 n tru).tp (t.ts.length : Int) t.cm }
section
variable {P : Program} {w : World} {K : PySem.W.Frag} {mg : Str → Option Value} {base : Heap} {f cc Pt : Addr} {A : Around} {outer : List Env} {s : Shared} {H0 : Hp} {E : XK} {CM CT : Addr} {d : Ad} {t : Tb} {n : Int} {B : Nat} {tru : Bool} {T : List (Addr × Str)}
theorem hD5 (B' : Bi mg) (cT : Cn K CT tbN) (cM : Cn K CM mtN) (NM : MT P w K mg base 3 CT "new_mount" ["self", "space", "tree", "root"] (spNM CT CM)) (TB : TabB base mg cc Pt) (hmT : (Pt, qLam) ∈ T) (huT : ∀ p ∈ T, p.1 = Pt → p.2 = qLam) (h0 : TabAt CT CM H0 d t) (tb : Tabs T H0) (z : Sz B t) (hB : B + 1 ≤ 90000) (c : Clo t n) (lt : t.tp n ∈ t.kn) (hr : Room 6 (XDC P w K mg base f (.ref cc) A outer s H0 E).A) : Ho (XDC P w K mg base f (.ref cc) A outer s H0 E) (stDC 5)
    (fun σ H => ∃ L Cd, σ = [some (.ref (d.a .tab)), some (.int n), some (.bl tru), some (.ref L), some (.int t.ts.length), some (.ref Cd), none, none] ∧ TabAt CT CM H d (t.clo1 n tru) ∧ Fr H0 d t H d (t.clo1 n tru) ∧ H L = some (.lst [.ref (d.a (.mt (t.tp n)))]) ∧ H Cd = some (.dK []) ∧ Out d (t.clo1 n tru) Cd ∧ H0 L = none ∧ H0 Cd = none)
    (fun σ H => ∃ L Cd d' v6, σ = [some (.ref (d.a .tab)), some (.int n), some (.bl tru), some (.ref L), some (.int t.ts.length), some (.ref Cd), v6, none] ∧ TabAt CT CM H d' (t.clo2 n tru) ∧ Tabs T H ∧ Ext1 d d' t.cm ∧ FrN H0 d t H d' (t.clo2 n tru) ∧ H L = some (.lst [.ref (d.a (.mt (t.tp n)))]) ∧ H Cd = some (.dK [((Sum.inl (t.tp n) : Key), .ref (d'.a (.mt t.cm)))]) ∧ Out d' (t.clo2 n tru) Cd) := by
  have hu := units1 hr
  have pe5 := peS5 (P := P) (w := w) (f := f) (A := A) (outer := outer) (s := s) (H0 := H0) (E := E) B' cM TB hmT huT (hr.mono (by decide))
  obtain ⟨fN, fdN, mN, FN, bN⟩ := NM
  refine ⟨_, ps_for PassesOwn.never rfl (pi_list pe5) (pg_name (i := 6) scDC.nd rfl (Or.inl rfl)) (pss_one (ps_dput hu (pv 5) (pe_fld (pv 6) rfl) (pe_meth (pv 0) cT.cl mN FN (hr.mono (by decide)) bN .nil pass0 (pa_cons (pv 4) (pa_cons (pe_fld (pv 6) rfl) (pa_cons (pe_fld (pv 6) rfl) pa_nil)))) rfl)), ?_⟩
  clear pe5
  rintro D0 σ H ⟨L, Cd, rfl, h1, f1, hL, hC, oC, nL, nC⟩ q
  have tb1 := Fr.tabs h0 f1 tb
  have hm := h1.all (.mt (t.tp n)) lt
  refine ⟨_, rfl, tb1, fun lv H2 e2 tb2 la => ?_⟩
  have h2 := h1.ext e2
  have hL2 := e2 _ _ hL fun ps z => by cases z
  have hC2 := e2 _ _ hC fun ps z => by cases z
  have hm2 := h2.all (.mt (t.tp n)) lt
  refine ⟨L, d.a (.mt (t.tp n)), d.dm (t.tp n), _, t.tp n, lv, rfl, rfl, la, hL2, hm2, rfl, fun p hp => ?_⟩
  have s3 := same_new (o := HO.lst [.ref (d.a (.mt (t.tp n)))]) hp
  have h3 := h2.same s3
  have hp3 : upd H2 p (.lst [.ref (d.a (.mt (t.tp n)))]) p = some (.lst [.ref (d.a (.mt (t.tp n)))]) := upd_same
  have hL3 := s3 _ _ hL2
  have hC3 := s3 _ _ hC2
  have tb3 := tb2.ext s3
  have F3 : FrN H0 d t (upd H2 p (.lst [.ref (d.a (.mt (t.tp n)))])) d (t.clo1 n tru) := (f1.n.trans (FrN.ext e2)).trans (Fr.same h2 s3).n
  generalize hH3 : upd H2 p (.lst [.ref (d.a (.mt (t.tp n)))]) = H3 at h3 hp3 hL3 hC3 tb3 F3 ⊢
  have npC : p ≠ Cd := fun e => by
    rw [e, hC2] at hp
    cases hp
  have nLC : L ≠ Cd := ne_of hL3 hC3 (by intro z; cases z)
  refine ⟨p, rfl, ⟨_, SqL.of hp3⟩, ?_⟩
  refine for_list (K := K) (a := p) (xs := [V.ref (d.a (.mt (t.tp n)))]) (fun i σ H' => H' p = some (.lst [.ref (d.a (.mt (t.tp n)))]) ∧ ((i = 0 ∧ σ = [some (.ref (d.a .tab)), some (.int n), some (.bl tru), some (.ref L), some (.int t.ts.length), some (.ref Cd), none, none] ∧ H' = H3) ∨ (i = 1 ∧ ∃ d' v6, σ = [some (.ref (d.a .tab)), some (.int n), some (.bl tru), some (.ref L), some (.int t.ts.length), some (.ref Cd), v6, none] ∧ TabAt CT CM H' d' (t.clo2 n tru) ∧ Tabs T H' ∧ Ext1 d d' t.cm ∧ FrN H0 d t H' d' (t.clo2 n tru) ∧ H' L = some (.lst [.ref (d.a (.mt (t.tp n)))]) ∧ H' Cd = some (.dK [((Sum.inl (t.tp n) : Key), .ref (d'.a (.mt t.cm)))]) ∧ Out d' (t.clo2 n tru) Cd))) ⟨hp3, .inl ⟨rfl, rfl, rfl⟩⟩ (fun i σ H' _ h => SqL.of h.1) ?_ ?_
  · rintro i y σ H' hy ⟨hp', ⟨rfl, rfl, rfl⟩ | ⟨rfl, _⟩⟩
    · obtain rfl := Option.some.inj hy
      have hm3 := h3.all (.mt (t.tp n)) lt
      refine ⟨_, rfl, d.a .tab, d.dT, _, rfl, h3.all .tab trivial, rfl, _, rfl, _, rfl, d.a (.mt (t.tp n)), CM, d.dm (t.tp n), _, .str (t.mn (t.tp n)).tr, rfl, hm3, cM.cl, cM.no _ (by decide +kernel), rfl, _, rfl, d.a (.mt (t.tp n)), CM, d.dm (t.tp n), _, (t.mn (t.tp n)).rv, rfl, hm3, cM.cl, cM.no _ (by decide +kernel), rfl, ?_⟩
      refine ⟨d, t.clo1 n tru, B + 1, _, _, _, rfl, h3, clo1_sz z hB n tru, c.nkn, c.nkp, fun H4 d4 h4 f4 x4 n4 => ?_⟩
      obtain ⟨hC4, oC4⟩ := f4 _ _ hC3 oC
      have hL4 := (f4 _ _ hL3 (h3.outOf hL3 fun r => ob_nlst r _)).1
      have hp4 := (f4 _ _ hp' (h3.outOf hp' fun r => ob_nlst r _)).1
      have tb4 := Fr.tabs h3 f4 tb3
      have eM : d4.a (.mt (t.tp n)) = d.a (.mt (t.tp n)) := x4.a _ (fun e => c.nkn (by have e := Role.mt.inj e; rw [show t.cm = t.tp n from e.symm]; exact lt)) (fun e => by cases e)
      have hm4 : H4 (d.a (.mt (t.tp n))) = some (.ins CM (d4.dm (t.tp n)) (mnF (t.tp n) ((t.clo2 n tru).mn (t.tp n)))) := by
        rw [← eM]
        exact h4.all (.mt (t.tp n)) (List.mem_append_left _ lt)
      refine ⟨_, rfl, _, rfl, d.a (.mt (t.tp n)), CM, d4.dm (t.tp n), _, .int (t.tp n), rfl, hm4, cM.cl, cM.no _ (by decide +kernel), rfl, Cd, _, rfl, DPut.k (k := (Sum.inl (t.tp n) : Key)) (kvs := []) hC4 (by decide), ?_⟩
      refine ⟨by rw [upd_ne npC]; exact hp4, .inr ⟨rfl, d4, _, rfl, h4.updOut oC4, tabs_updO tb4 hC4 (fun ps z => by cases z) dK_ncode, x4, FrN.updNew (F3.trans f4.n) nC, ?_, upd_same, oC4⟩⟩
      rw [upd_ne nLC]
      exact hL4
    · cases hy
  · rintro σ H' ⟨hp', ⟨z, _⟩ | ⟨_, d', v6, rfl, h4, tb4, x4, f4, hL4, hC4, oC4⟩⟩
    · cases z
    · exact q _ _ ⟨L, Cd, d', v6, rfl, h4, tb4, x4, f4, hL4, hC4, oC4⟩
theorem hD6 (cT : Cn K CT tbN) (cM : Cn K CM mtN) (z : Sz B t) (hB : B + 1 ≤ 90000) (c : Clo t n) (ln : n ∈ t.ts) (lt : t.tp n ∈ t.kn) (hr : Room 6 (XDC P w K mg base f (.ref cc) A outer s H0 E).A) : Ho (XDC P w K mg base f (.ref cc) A outer s H0 E) (stDC 6)
    (fun σ H => ∃ L Cd d' v6, σ = [some (.ref (d.a .tab)), some (.int n), some (.bl tru), some (.ref L), some (.int t.ts.length), some (.ref Cd), v6, none] ∧ TabAt CT CM H d' (t.clo2 n tru) ∧ Tabs T H ∧ Ext1 d d' t.cm ∧ FrN H0 d t H d' (t.clo2 n tru) ∧ H L = some (.lst [.ref (d.a (.mt (t.tp n)))]) ∧ H Cd = some (.dK [((Sum.inl (t.tp n) : Key), .ref (d'.a (.mt t.cm)))]) ∧ Out d' (t.clo2 n tru) Cd)
    (fun σ H => ∃ L Cd d' v6, σ = [some (.ref (d.a .tab)), some (.int n), some (.bl tru), some (.ref L), some (.int t.ts.length), some (.ref Cd), v6, none] ∧ TabAt CT CM H d' (t.clo3 n tru) ∧ Tabs T H ∧ Ext1 d d' t.cm ∧ FrN H0 d t H d' (t.clo3 n tru) ∧ H L = some (.lst [.ref (d.a (.mt (t.tp n)))]) ∧ H Cd = some (.dK [((Sum.inl (t.tp n) : Key), .ref (d'.a (.mt t.cm)))]) ∧ Out d' (t.clo3 n tru) Cd) := by
  have hu := units1 hr
  refine ⟨_, ps_dput hu (pe_fld (pv 0) rfl) (pv 4) (pe_fld (pe_dget hu (pv 5) (pe_dget hu (pe_fld (pv 0) rfl) (pv 1) (fun _ _ => rfl)) (fun _ _ => rfl)) rfl) rfl, ?_⟩
  rintro D0 σ H ⟨L, Cd, d', v6, rfl, h, tb, x, fr, hL, hC, oC⟩ q
  have eT : d'.a .tab = d.a .tab := x.a _ (by intro e; cases e) (by intro e; cases e)
  have hT := h.all .tab trivial
  rw [eT] at hT
  have lcm : t.cm ∈ (t.clo2 n tru).kn := List.mem_append_right _ (List.mem_singleton.mpr rfl)
  have hc := h.all (.mt t.cm) lcm
  have hg : DGet H (d'.a .tp) (.int n) (some (.int (t.tp n))) := dget_dk (f := fun n => V.int (t.tp n)) (h.all .tp trivial) ln
  have hg2 : DGet H Cd (.int (t.tp n)) (some (.ref (d'.a (.mt t.cm)))) := by
    have := DGet.k (k := (Sum.inl (t.tp n) : Key)) hC
    rw [valV_pos rfl] at this
    exact this
  refine ⟨_, rfl, _, rfl, d.a .tab, CT, d'.dT, _, .ref (d'.a .tp), rfl, hT, cT.cl, cT.no _ (by decide +kernel), rfl, _, rfl, d'.a .tp, _, rfl, hg, Cd, _, rfl, hg2, d'.a (.mt t.cm), CM, d'.dm t.cm, _, .int t.cm, rfl, hc, cM.cl, cM.no _ (by decide +kernel), rfl, ?_⟩
  refine ⟨_, rfl, d.a .tab, CT, d'.dT, _, .ref (d'.a .tp), rfl, hT, cT.cl, cT.no _ (by decide +kernel), rfl, _, rfl, d'.a .tp, _, rfl, DPut.k (k := (Sum.inl (t.ts.length : Int) : Key)) (h.all .tp trivial) (z.lt (by rw [dk_len]; exact z.ts)), ?_⟩
  obtain ⟨h2, f2⟩ := h.addTp (n := (t.ts.length : Int)) (v := t.cm) (o := .dK (putK (dk (t.clo2 n tru).ts fun n => .int ((t.clo2 n tru).tp n)) (Sum.inl (t.ts.length : Int)) (.int t.cm))) c.nts rfl
  have hL2 := (f2 _ _ hL (h.outOf hL fun r => ob_nlst r _)).1
  obtain ⟨hC2, oC2⟩ := f2 _ _ hC oC
  exact q _ _ ⟨L, Cd, d', v6, rfl, h2, Fr.tabs h f2 tb, x, fr.trans f2.n, hL2, hC2, oC2⟩
end
end Rp
set_option Elab.async false
set_option linter.all false
set_option autoImplicit false
set_option maxRecDepth 100000
set_option maxHeartbeats 8000000
namespace Rp
open PySem PySem.Spec PyProof.Rows L2 Cm Ob Tx LamX NdefX
/-! do_clone: statement 7, all -/
theorem setM_sz {B : Nat} {t : Tb} (z : Sz B t) (n : Int) (m : Mn) : Sz B (t.setM n m) := ⟨z.b, z.kn, z.kp, z.ts, z.os, z.gm, z.gb, z.gh, z.me, z.be⟩
theorem clo3_sz {B : Nat} {t : Tb} (z : Sz B t) (hB : B + 2 ≤ 90000) (n : Int) (tru : Bool) : Sz (B + 2) (t.clo3 n tru) := by
  have z2 := newM_sz (clo1_sz z (by omega) n tru) hB t.ts.length (t.mn (t.tp n)).tr (t.mn (t.tp n)).rv
  have zt := z.ts
  exact ⟨z2.b, z2.kn, z2.kp, by show (t.ts ++ [_]).length ≤ B + 2; rw [List.length_append, List.length_singleton]; omega, z2.os, z2.gm, z2.gb, z2.gh, z2.me, z2.be⟩
theorem clo4_eq (t : Tb) (n : Int) (tru : Bool) : t.clo4 n tru = (t.clo3 n tru).setM t.cm { (t.clo3 n tru).mn t.cm with st := (t.mn (t.tp n)).st, ma := (t.mn (t.tp n)).ma, lo := tru && (t.mn (t.tp n)).lo } := rfl
section
variable {P : Program} {w : World} {K : PySem.W.Frag} {mg : Str → Option Value} {base : Heap} {f cc Pt : Addr} {A : Around} {outer : List Env} {s : Shared} {H0 : Hp} {E : XK} {CM CT : Addr} {d : Ad} {t : Tb} {n : Int} {B : Nat} {tru : Bool} {T : List (Addr × Str)}
theorem hD7 (cT : Cn K CT tbN) (cM : Cn K CM mtN) (Jo : MT P w K mg base 1 CT "join" ["self", "mount", "group"] (spJoin CT CM)) (Fo : MT P w K mg base 1 CT "follow" ["self", "mount", "group"] (spFollow CT CM)) (wf : Wf t) (z : Sz B t) (hB : B + 2 ≤ 90000) (c : Clo t n) (ln : n ∈ t.ts) (lt : t.tp n ∈ t.kn) (hr : Room 6 (XDC P w K mg base f (.ref cc) A outer s H0 E).A) : Ho (XDC P w K mg base f (.ref cc) A outer s H0 E) (stDC 7)
    (fun σ H => ∃ L Cd d' v6, σ = [some (.ref (d.a .tab)), some (.int n), some (.bl tru), some (.ref L), some (.int t.ts.length), some (.ref Cd), v6, none] ∧ TabAt CT CM H d' (t.clo3 n tru) ∧ Tabs T H ∧ Ext1 d d' t.cm ∧ FrN H0 d t H d' (t.clo3 n tru) ∧ H L = some (.lst [.ref (d.a (.mt (t.tp n)))]) ∧ H Cd = some (.dK [((Sum.inl (t.tp n) : Key), .ref (d'.a (.mt t.cm)))]) ∧ Out d' (t.clo3 n tru) Cd)
    (fun σ H => ∃ d' v3 v5 v6 v7, σ = [some (.ref (d.a .tab)), some (.int n), some (.bl tru), v3, some (.int t.ts.length), v5, v6, v7] ∧ TabAt CT CM H d' (t.clone n tru) ∧ Tabs T H ∧ d'.a .tab = d.a .tab ∧ FrN H0 d t H d' (t.clone n tru)) := by
  have hu := units1 hr
  obtain ⟨fJ, fdJ, mJ, FJ, bJ⟩ := Jo
  obtain ⟨fF, fdF, mF, FF, bF⟩ := Fo
  have hr1 : Room 1 (XDC P w K mg base f (.ref cc) A outer s H0 E).A := hr.mono (by decide)
  refine ⟨_, ps_for PassesOwn.never rfl (pi_list (pv 3)) (pg_name (i := 6) scDC.nd rfl (Or.inl rfl))
    (pss_cons (ps_set (i := 7) scDC.nd rfl (.inl rfl) (pe_dget hu (pv 5) (pe_fld (pv 6) rfl) (fun _ _ => rfl)))
    (pss_cons (ps_if (pt_cmpR op_notN (pe_fld (pv 6) rfl) pe_non (nomark _)) pss_no pss_nil)
    (pss_cons (ps_asg (pe_tup (pa_cons (pe_fld (pv 6) rfl) (pa_cons (pe_fld (pv 6) rfl) (pa_cons (pe_fld (pv 6) rfl) pa_nil)))) (pg_tup rfl (pgs_cons (pg_fld (pv 7)) (pgs_cons (pg_fld (pv 7)) (pgs_cons (pg_fld (pv 7)) pgs_nil)))))
    (pss_cons (ps_if (pt_not (pt_val (pv 2))) (pss_one (ps_fld (pv 7) (pe_cmpR op_notN (pe_fld (pv 6) rfl) pe_non (nomark _)) rfl)) pss_nil)
    (pss_one (ps_if (pt_cmpR op_isN (pe_fld (pv 6) rfl) pe_non (nomark _)) (pss_one (ps_expr (pe_meth (pv 0) cT.cl mF FF hr1 bF .nil pass0 (pa_cons (pv 7) (pa_cons (pe_fld (pv 6) rfl) pa_nil)))))
      (pss_one (ps_if (pt_val (pv 2)) (pss_one (ps_expr (pe_meth (pv 0) cT.cl mJ FJ hr1 bJ .nil pass0 (pa_cons (pv 7) (pa_cons (pe_fld (pv 6) rfl) pa_nil)))))
        (pss_one (ps_expr (pe_meth (pv 0) cT.cl mF FF hr1 bF .nil pass0 (pa_cons (pv 7) (pa_cons (pe_fld (pv 6) rfl) pa_nil)))))))))))))
    , ?_⟩
  rintro D0 σ H ⟨L, Cd, d', v6, rfl, h, tb, x, fr, hL, hC, oC⟩ q
  have eT : d'.a .tab = d.a .tab := x.a _ (by intro e; cases e) (by intro e; cases e)
  have ne : t.tp n ≠ t.cm := fun e => c.nkn (by rw [← e]; exact lt)
  have eM : d'.a (.mt (t.tp n)) = d.a (.mt (t.tp n)) := x.a _ (fun e => ne (Role.mt.inj e)) (fun e => by cases e)
  refine ⟨_, rfl, L, rfl, ⟨_, SqL.of hL⟩, ?_⟩
  refine for_list (K := K) (a := L) (xs := [V.ref (d.a (.mt (t.tp n)))]) (fun i σ H' => H' L = some (.lst [.ref (d.a (.mt (t.tp n)))]) ∧ ((i = 0 ∧ σ = [some (.ref (d.a .tab)), some (.int n), some (.bl tru), some (.ref L), some (.int t.ts.length), some (.ref Cd), v6, none] ∧ H' = H) ∨ (i = 1 ∧ ∃ d' v3 v5 v6 v7, σ = [some (.ref (d.a .tab)), some (.int n), some (.bl tru), v3, some (.int t.ts.length), v5, v6, v7] ∧ TabAt CT CM H' d' (t.clone n tru) ∧ Tabs T H' ∧ d'.a .tab = d.a .tab ∧ FrN H0 d t H' d' (t.clone n tru)))) ⟨hL, .inl ⟨rfl, rfl, rfl⟩⟩ (fun i σ H' _ h => SqL.of h.1) ?_ ?_
  · rintro i y σ H' hy ⟨hL', ⟨rfl, rfl, rfl⟩ | ⟨rfl, _⟩⟩
    · obtain rfl := Option.some.inj hy
      have lcm : t.cm ∈ (t.clo3 n tru).kn := List.mem_append_right _ (List.mem_singleton.mpr rfl)
      have ltm : t.tp n ∈ (t.clo3 n tru).kn := List.mem_append_left _ lt
      have emn : (t.clo3 n tru).mn (t.tp n) = t.mn (t.tp n) := by
        show fu t.mn t.cm _ (t.tp n) = _
        rw [fu_ne ne]
      have hm : H' (d.a (.mt (t.tp n))) = some (.ins CM (d'.dm (t.tp n)) (mnF (t.tp n) (t.mn (t.tp n)))) := by
        have := h.all (.mt (t.tp n)) ltm
        rw [eM] at this
        rw [this]
        show some (HO.ins CM (d'.dm (t.tp n)) (mnF (t.tp n) ((t.clo3 n tru).mn (t.tp n)))) = _
        rw [emn]
      have hg2 : DGet H' Cd (.int (t.tp n)) (some (.ref (d'.a (.mt t.cm)))) := by
        have := DGet.k (k := (Sum.inl (t.tp n) : Key)) hC
        rw [valV_pos rfl] at this
        exact this
      refine ⟨_, rfl, _, rfl, d.a (.mt (t.tp n)), CM, d'.dm (t.tp n), _, .int (t.tp n), rfl, hm, cM.cl, cM.no _ (by decide +kernel), rfl, Cd, _, rfl, hg2, ?_⟩
      refine ⟨_, rfl, d.a (.mt (t.tp n)), CM, d'.dm (t.tp n), _, oi (t.mn (t.tp n)).pa, rfl, hm, cM.cl, cM.no _ (by decide +kernel), rfl, rfl, _, rfl, ?_⟩
      rw [c.pa]
      refine iteF ?_
      refine ⟨_, rfl, d.a (.mt (t.tp n)), CM, d'.dm (t.tp n), _, (t.mn (t.tp n)).st, rfl, hm, cM.cl, cM.no _ (by decide +kernel), rfl, _, rfl, d.a (.mt (t.tp n)), CM, d'.dm (t.tp n), _, .bl (t.mn (t.tp n)).ma, rfl, hm, cM.cl, cM.no _ (by decide +kernel), rfl, _, rfl, d.a (.mt (t.tp n)), CM, d'.dm (t.tp n), _, .bl (t.mn (t.tp n)).lo, rfl, hm, cM.cl, cM.no _ (by decide +kernel), rfl, by show 3 ≤ sizeLine; decide, fun p hp => ?_⟩
      have s1 := same_new (o := HO.tup [(t.mn (t.tp n)).st, .bl (t.mn (t.tp n)).ma, .bl (t.mn (t.tp n)).lo]) hp
      have hp1 : upd H' p (.tup [(t.mn (t.tp n)).st, .bl (t.mn (t.tp n)).ma, .bl (t.mn (t.tp n)).lo]) p = some (.tup [(t.mn (t.tp n)).st, .bl (t.mn (t.tp n)).ma, .bl (t.mn (t.tp n)).lo]) := upd_same
      generalize hH1 : upd H' p (.tup [(t.mn (t.tp n)).st, .bl (t.mn (t.tp n)).ma, .bl (t.mn (t.tp n)).lo]) = H1 at s1 hp1 ⊢
      have h1 := h.same s1
      have hc1 := h1.all (.mt t.cm) lcm
      refine ⟨p, _, rfl, SqT.of hp1, rfl, _, _, rfl, _, rfl, d'.a (.mt t.cm), CM, d'.dm t.cm, _, rfl, hc1, cM.cl, cM.no _ (by decide +kernel), by show 11 < 1000; decide, _, _, rfl, _, rfl, d'.a (.mt t.cm), CM, d'.dm t.cm, _, rfl, upd_same, cM.cl, cM.no _ (by decide +kernel), by show 11 < 1000; decide, _, _, rfl, _, rfl, d'.a (.mt t.cm), CM, d'.dm t.cm, _, rfl, upd_same, cM.cl, cM.no _ (by decide +kernel), by show 11 < 1000; decide, rfl, ?_⟩
      have rest : ∀ (lo : Bool) (H2 : Hp), lo = (tru && (t.mn (t.tp n)).lo) → But (d'.a (.mt t.cm)) H1 H2 → H2 (d'.a (.mt t.cm)) = some (.ins CM (d'.dm t.cm) (mnF t.cm { (t.clo3 n tru).mn t.cm with st := (t.mn (t.tp n)).st, ma := (t.mn (t.tp n)).ma, lo := lo })) → TabAt CT CM H2 d' (t.clo4 n tru) ∧ FrN H0 d t H2 d' (t.clo4 n tru) ∧ Tabs T H2 ∧ H2 (d.a (.mt (t.tp n))) = some (.ins CM (d'.dm (t.tp n)) (mnF (t.tp n) (t.mn (t.tp n)))) ∧ H2 L = some (.lst [.ref (d.a (.mt (t.tp n)))]) := fun lo H2 el b e2 => by
        rw [el] at e2
        obtain ⟨h2, f2⟩ := h1.setM lcm b e2
        have h2 : TabAt CT CM H2 d' (t.clo4 n tru) := h2
        have f2 : Fr H1 d' (t.clo3 n tru) H2 d' (t.clo4 n tru) := f2
        refine ⟨h2, fr.trans ((Fr.same h s1).trans f2).n, Fr.tabs h1 f2 (tb.ext s1), b _ _ (fun e => ne (Role.mt.inj (h.inj _ _ ltm lcm (eM.trans e)))) (s1 _ _ hm), (f2 _ _ (s1 _ _ hL') (h1.outOf (s1 _ _ hL') fun r => ob_nlst r _)).1⟩
      have z4 : Sz (B + 2) (t.clo4 n tru) := setM_sz (clo3_sz z hB n tru) _ _
      have lc4 : t.cm ∈ (t.clo4 n tru).kn := lcm
      -- behind the marks
      have fin : ∀ H2, TabAt CT CM H2 d' (t.clo4 n tru) → FrN H0 d t H2 d' (t.clo4 n tru) → Tabs T H2 → H2 (d.a (.mt (t.tp n))) = some (.ins CM (d'.dm (t.tp n)) (mnF (t.tp n) (t.mn (t.tp n)))) → H2 L = some (.lst [.ref (d.a (.mt (t.tp n)))]) → ∀ H3, TabAt CT CM H3 d' (t.clone n tru) → Fr H2 d' (t.clo4 n tru) H3 d' (t.clone n tru) → H3 L = some (.lst [.ref (d.a (.mt (t.tp n)))]) ∧ ((0 + 1 = 0 ∧ [some (V.ref (d.a .tab)), some (.int n), some (.bl tru), some (.ref L), some (.int t.ts.length), some (.ref Cd), some (.ref (d.a (.mt (t.tp n)))), some (.ref (d'.a (.mt t.cm)))] = [some (.ref (d.a .tab)), some (.int n), some (.bl tru), some (.ref L), some (.int t.ts.length), some (.ref Cd), v6, none] ∧ H3 = H') ∨ (0 + 1 = 1 ∧ ∃ d2 v3 v5 v6 v7, [some (V.ref (d.a .tab)), some (.int n), some (.bl tru), some (.ref L), some (.int t.ts.length), some (.ref Cd), some (.ref (d.a (.mt (t.tp n)))), some (.ref (d'.a (.mt t.cm)))] = [some (.ref (d.a .tab)), some (.int n), some (.bl tru), v3, some (.int t.ts.length), v5, v6, v7] ∧ TabAt CT CM H3 d2 (t.clone n tru) ∧ Tabs T H3 ∧ d2.a .tab = d.a .tab ∧ FrN H0 d t H3 d2 (t.clone n tru))) := fun H2 h2 f2 tb2 hm2 hL2 H3 h3 f3 =>
        ⟨(f3 _ _ hL2 (h2.outOf hL2 fun r => ob_nlst r _)).1, .inr ⟨rfl, d', _, _, _, _, rfl, h3, Fr.tabs h2 f3 tb2, eT, f2.trans f3.n⟩⟩
      cases etru : tru with
      | true =>
        rw [etru] at rest fin h z4 lc4 lcm
        obtain ⟨h2, f2, tb2, hm2, hL2⟩ := rest (t.mn (t.tp n)).lo _ (by simp) ((But.upd.trans But.upd).trans But.upd) upd_same
        refine ⟨_, rfl, _, rfl, iteF ?_⟩
        have hT2 := h2.all .tab trivial
        rw [eT] at hT2
        refine ⟨_, rfl, d.a (.mt (t.tp n)), CM, d'.dm (t.tp n), _, oi (t.mn (t.tp n)).gr, rfl, hm2, cM.cl, cM.no _ (by decide +kernel), rfl, rfl, _, rfl, ?_⟩
        cases eg : (t.mn (t.tp n)).gr with
        | none =>
          have ec : t.clone n true = (t.clo4 n true).follow t.cm (t.mn (t.tp n)).fo := by
            unfold Tb.clone
            rw [eg]
          refine iteT ⟨_, rfl, d.a .tab, d'.dT, _, rfl, hT2, rfl, _, rfl, _, rfl, d.a (.mt (t.tp n)), CM, d'.dm (t.tp n), _, oi (t.mn (t.tp n)).fo, rfl, hm2, cM.cl, cM.no _ (by decide +kernel), rfl, d', t.clo4 n true, B + 2, t.cm, (t.mn (t.tp n)).fo, by rw [eT]; rfl, h2, z4, lc4, fun k hk => ?_, fun H3 h3 f3 => fin _ h2 f2 tb2 hm2 hL2 H3 (by rw [ec]; exact h3) (by rw [ec]; exact f3)⟩
          show k ∈ t.gh
          rw [wf.gh]
          exact (wf.fo _ lt k hk).1
        | some g =>
          have ec : t.clone n true = (t.clo4 n true).join t.cm g := by
            unfold Tb.clone
            rw [eg]
          have hl : (mnF (t.tp n) (t.mn (t.tp n))).lookup ("group" : Str) = some (.int g) := by
            show some (oi (t.mn (t.tp n)).gr) = _
            rw [eg]
            rfl
          refine iteF ⟨_, rfl, _, rfl, iteT ⟨_, rfl, d.a .tab, d'.dT, _, rfl, hT2, rfl, _, rfl, _, rfl, d.a (.mt (t.tp n)), CM, d'.dm (t.tp n), _, .int g, rfl, hm2, cM.cl, cM.no _ (by decide +kernel), hl, d', t.clo4 n true, B + 2, t.cm, g, by rw [eT]; rfl, h2, z4, lc4, ?_, fun H3 h3 f3 => fin _ h2 f2 tb2 hm2 hL2 H3 (by rw [ec]; exact h3) (by rw [ec]; exact f3)⟩⟩
          show g ∈ t.gb
          rw [wf.gb]
          exact (wf.gr _ lt g eg).1
      | false =>
        rw [etru] at rest fin h z4 lc4 lcm
        have hm1 := s1 _ _ hm
        have nea : d.a (.mt (t.tp n)) ≠ d'.a (.mt t.cm) := fun e => ne (Role.mt.inj (h.inj _ _ (List.mem_append_left _ lt) lcm (eM.trans e)))
        refine ⟨_, rfl, _, rfl, iteT ?_⟩
        refine ⟨_, rfl, d.a (.mt (t.tp n)), CM, d'.dm (t.tp n), _, oi (t.mn (t.tp n)).pa, rfl, by rw [upd_ne nea, upd_ne nea, upd_ne nea]; exact hm1, cM.cl, cM.no _ (by decide +kernel), rfl, rfl, _, rfl, d'.a (.mt t.cm), CM, d'.dm t.cm, _, rfl, upd_same, cM.cl, cM.no _ (by decide +kernel), by show 11 < 1000; decide, ?_⟩
        rw [c.pa]
        obtain ⟨h2, f2, tb2, hm2, hL2⟩ := rest false _ (by simp) (((But.upd.trans But.upd).trans But.upd).trans But.upd) upd_same
        have hT2 := h2.all .tab trivial
        rw [eT] at hT2
        refine ⟨_, rfl, d.a (.mt (t.tp n)), CM, d'.dm (t.tp n), _, oi (t.mn (t.tp n)).gr, rfl, hm2, cM.cl, cM.no _ (by decide +kernel), rfl, rfl, _, rfl, ?_⟩
        cases eg : (t.mn (t.tp n)).gr with
        | none =>
          have ec : t.clone n false = (t.clo4 n false).follow t.cm (t.mn (t.tp n)).fo := by
            unfold Tb.clone
            rw [eg]
          refine iteT ⟨_, rfl, d.a .tab, d'.dT, _, rfl, hT2, rfl, _, rfl, _, rfl, d.a (.mt (t.tp n)), CM, d'.dm (t.tp n), _, oi (t.mn (t.tp n)).fo, rfl, hm2, cM.cl, cM.no _ (by decide +kernel), rfl, d', t.clo4 n false, B + 2, t.cm, (t.mn (t.tp n)).fo, by rw [eT]; rfl, h2, z4, lc4, fun k hk => ?_, fun H3 h3 f3 => fin _ h2 f2 tb2 hm2 hL2 H3 (by rw [ec]; exact h3) (by rw [ec]; exact f3)⟩
          show k ∈ t.gh
          rw [wf.gh]
          exact (wf.fo _ lt k hk).1
        | some g =>
          have ec : t.clone n false = (t.clo4 n false).follow t.cm (some g) := by
            unfold Tb.clone
            rw [eg]
          have hl : (mnF (t.tp n) (t.mn (t.tp n))).lookup ("group" : Str) = some (.int g) := by
            show some (oi (t.mn (t.tp n)).gr) = _
            rw [eg]
            rfl
          refine iteF ⟨_, rfl, _, rfl, iteF ⟨_, rfl, d.a .tab, d'.dT, _, rfl, hT2, rfl, _, rfl, _, rfl, d.a (.mt (t.tp n)), CM, d'.dm (t.tp n), _, .int g, rfl, hm2, cM.cl, cM.no _ (by decide +kernel), hl, d', t.clo4 n false, B + 2, t.cm, some g, by rw [eT]; rfl, h2, z4, lc4, fun k hk => ?_, fun H3 h3 f3 => fin _ h2 f2 tb2 hm2 hL2 H3 (by rw [ec]; exact h3) (by rw [ec]; exact f3)⟩⟩
          cases hk
          show g ∈ t.gh
          rw [wf.gh]
          exact (wf.gr _ lt g eg).1
    · cases hy
  · rintro σ H' ⟨hL', ⟨z, _⟩ | ⟨_, d', v3, v5, v6, v7, rfl, h4, tb4, x4, f4⟩⟩
    · cases z
    · exact q _ _ ⟨d', v3, v5, v6, v7, rfl, h4, tb4, x4, f4⟩
theorem hD8 : HoR (XDC P w K mg base f (.ref cc) A outer s H0 E) [stDC 8] (fun σ H => ∃ d' v3 v5 v6 v7, σ = [some (.ref (d.a .tab)), some (.int n), some (.bl tru), v3, some (.int t.ts.length), v5, v6, v7] ∧ TabAt CT CM H d' (t.clone n tru) ∧ Tabs T H ∧ d'.a .tab = d.a .tab ∧ FrN H0 d t H d' (t.clone n tru))
    (fun v H => v = .int t.ts.length ∧ ∃ d', TabAt CT CM H d' (t.clone n tru) ∧ Tabs T H ∧ d'.a .tab = d.a .tab ∧ FrN H0 d t H d' (t.clone n tru)) := by
  refine ⟨_, pss_one (ps_ret (pv 4)), ?_⟩
  rintro D0 σ H ⟨d', v3, v5, v6, v7, rfl, h, tb, e, fr⟩ q
  exact ⟨_, rfl, q _ _ ⟨rfl, d', h, tb, e, fr⟩⟩
end
section
variable {P : Program} {w : World} {K : PySem.W.Frag} {mg : Str → Option Value} {base : Heap} {f cc Pt : Addr} {fd : FuncData} {CM CT : Addr} {T : List (Addr × Str)} {k : Nat}
theorem ok_clone {oc : Value} {od an : Option Addr} {dV kV doc pm ct : Value} {osl : Array (Option Value)} (lk : K.lookup f = some ⟨oc, od, .func (PySem.W.fnOf "do_clone" "do_clone" (defArgs sDoClone) (defBody sDoClone) (defScope sDoClone) dV kV doc pm an (.ref cc) ct), osl⟩) (hcd : PySem.W.codeIn K (.ref cc) "do_clone" = true)
    (B' : Bi mg) (M : Tm P w K mg base CT CM) (SR : MT P w K mg base 1 CT "sure_room" ["self", "more"] (spRoom CT CM)) (NM : MT P w K mg base 3 CT "new_mount" ["self", "space", "tree", "root"] (spNM CT CM)) (TB : TabB base mg cc Pt) (hmT : (Pt, qLam) ∈ T) (huT : ∀ p ∈ T, p.1 = Pt → p.2 = qLam) :
    FnOk P w K mg base CX0 7 f (PySem.W.fnOf "do_clone" "do_clone" (defArgs sDoClone) (defBody sDoClone) (defScope sDoClone) dV kV doc pm an (.ref cc) ct) ["table", "space", "trusted"] (spClone T CT CM) := by
  refine fn_of lk hcd scDC (fun vs H Q E h => ?_) (fun A outer s H vs Q E hr h => ?_)
  · obtain ⟨d, t, B, n, tru, rt, rfl, _⟩ := h
    rfl
  · obtain ⟨d, t, B, n, tru, rt, rfl, h, tb, wf, z, hB, fl, ln, lt, c, q⟩ := h
    have hr6 : Room 6 (XDC P w K mg base f (.ref cc) A outer s H E).A := hr
    have D8 := hD8 (P := P) (w := w) (K := K) (mg := mg) (base := base) (f := f) (cc := cc) (A := A) (outer := outer) (s := s) (H0 := H) (E := E) (CM := CM) (CT := CT) (d := d) (t := t) (n := n) (tru := tru) (T := T)
    have D7 := HoR.cons (hD7 (tru := tru) (d := d) (H0 := H) (T := T) M.c M.cM M.join M.follow wf z (by omega) c ln lt hr6) D8
    have D6 := HoR.cons (hD6 M.c M.cM z (by omega) c ln lt hr6) D7
    have D5 := HoR.cons (hD5 B' M.c M.cM NM TB hmT huT h tb z (by omega) c lt hr6) D6
    have D1 := hD1 B' M.c SR h z c lt hr6 D5
    obtain ⟨tt, ht, hq⟩ := HoR.cons (hD0 M.c M.cM h z c lt) D1
    rw [bodyDC]
    refine ⟨tt, ht.nox, hq _ _ _ ⟨rfl, rfl⟩ fun v H' z => ?_⟩
    obtain ⟨rfl, d', h', tb', e', f'⟩ := z
    exact q H' d' h' tb' f' e'
end
end Rp
set_option Elab.async false
set_option linter.all false
set_option autoImplicit false
set_option maxRecDepth 100000
set_option maxHeartbeats 4000000
/-! clone, as the plain law says it; the invariant of the worlds of this law -/
namespace Rp
open PySem PySem.Spec PyProof.Rows L2 Cm Ob Tx
def rng (M : Nat) : List Int := (List.range M).map fun (k : Nat) => (k : Int)
theorem rng_succ (M : Nat) : rng (M + 1) = rng M ++ [(M : Int)] := by
  unfold rng
  rw [List.range_succ, List.map_append, List.map_singleton]
theorem mem_rng {M : Nat} {k : Int} : k ∈ rng M ↔ 0 ≤ k ∧ k < M := by
  unfold rng
  rw [List.mem_map]
  constructor
  · rintro ⟨a, h, rfl⟩
    have := List.mem_range.mp h
    omega
  · rintro ⟨a, b⟩
    exact ⟨k.toNat, List.mem_range.mpr (by omega), by omega⟩
theorem rng_len (M : Nat) : (rng M).length = M := by
  unfold rng
  rw [List.length_map, List.length_range]
theorem rng_sorted (M : Nat) : (rng M).Pairwise (· < ·) := by
  induction M with
  | zero => exact List.Pairwise.nil
  | succ M ih =>
    rw [rng_succ]
    refine List.pairwise_append.mpr ⟨ih, List.pairwise_singleton _ _, fun a ha b hb => ?_⟩
    rw [List.mem_singleton.mp hb]
    exact (mem_rng.mp ha).2
theorem rng_nd (M : Nat) : (rng M).Nodup := (rng_sorted M).imp fun h => Int.ne_of_lt h
structure W28 (M j : Nat) (t : Tb) : Prop where
  w : Wg t
  kn : t.kn = rng M
  kp : t.kp = rng M
  ts : t.ts = rng M
  os : t.os = rng M
  tp : ∀ k ∈ rng M, t.tp k = k
  sp : ∀ k ∈ rng M, (t.mn k).sp = k
  pa : ∀ k ∈ rng M, (t.mn k).pa = none
  cm : t.cm = M
  most : t.most = 1000
  gl : t.gm.length ≤ j
theorem len_sub {l m : List Int} (h : l.Nodup) (s : ∀ x ∈ l, x ∈ m) : l.length ≤ m.length := List.Nodup.length_le_of_subset h s
theorem W28.sz {M j : Nat} {t : Tb} (h : W28 M j t) (hM : M ≤ 10) (hj : j ≤ 90) : Sz 100 t := by
  have gl := h.gl
  refine ⟨by decide, ?_, ?_, ?_, ?_, by omega, ?_, ?_, fun g => ?_, fun g => ?_⟩
  · rw [h.kn, rng_len]
    omega
  · rw [h.kp, rng_len]
    omega
  · rw [h.ts, rng_len]
    omega
  · rw [h.os, rng_len]
    omega
  · rw [h.w.gb]
    omega
  · rw [h.w.gh]
    omega
  · have := len_sub (h.w.mn g) (h.w.mek g)
    rw [h.kn, rng_len] at this
    omega
  · have := len_sub (h.w.bn g) (h.w.bek g)
    rw [h.kn, rng_len] at this
    omega
theorem W28.few {M j : Nat} {t : Tb} (h : W28 M j t) (hM : M ≤ 10) : ∀ g, (t.me g).length < 64 := fun g => by
  have := len_sub (h.w.mn g) (h.w.mek g)
  rw [h.kn, rng_len] at this
  omega
theorem W28.clo {M j : Nat} {t : Tb} (h : W28 M j t) (hM : M ≤ 10) {n : Int} (hn : n ∈ rng M) : Clo t n := by
  have nM : (M : Int) ∉ rng M := fun z => Int.lt_irrefl _ (mem_rng.mp z).2
  refine ⟨fun k hk => ?_, by rw [h.kn]; exact rng_nd M, by rw [h.tp n hn]; exact h.pa n hn, ?_, by rw [h.most]; decide, by rw [h.os]; exact hn, ?_, ?_, by rw [h.kn, h.cm]; exact nM, by rw [h.kp, h.cm]; exact nM⟩
  · rw [h.kn] at hk
    rw [h.sp k hk, h.tp n hn]
  · rw [h.kn, h.most, rng_len]
    omega
  · rw [h.ts, rng_len]
    exact nM
  · rw [h.ts, h.os, rng_len]
    exact nM
theorem W28.make {M j : Nat} {t : Tb} (h : W28 M j t) {n : Int} (hn : n ∈ rng M) (kind : Str) : W28 M (j + 1) (t.make n kind) := by
  have m := made h.w (n := n) (by rw [h.kn]; exact hn) kind
  refine ⟨m.w, by rw [m.r.kn]; exact h.kn, by rw [m.r.kp]; exact h.kp, by rw [m.r.ts]; exact h.ts, by rw [m.r.os]; exact h.os, by rw [m.r.tp]; exact h.tp, fun k hk => ?_, fun k hk => ?_, by rw [m.r.cm]; exact h.cm, by rw [m.r.most]; exact h.most, Nat.le_trans m.len (Nat.succ_le_succ h.gl)⟩
  · rw [m.r.mn k]
    exact h.sp k hk
  · rw [m.r.mn k]
    exact h.pa k hk
/-- a mount more, without a group -/
theorem We.newMount {t t' : Tb} (w : Wg t) {c : Int} (hc : c ∉ t.kn) (e1 : t'.kn = t.kn ++ [c]) (e2 : ∀ k, k ≠ c → t'.mn k = t.mn k) (e3 : (t'.mn c).gr = none) (e4 : (t'.mn c).fo = none) (g1 : t'.gm = t.gm) (g2 : t'.gb = t.gb) (g3 : t'.gh = t.gh) (g4 : t'.me = t.me) (g5 : t'.be = t.be) (g6 : t'.ms = t.ms) (g7 : t'.cg = t.cg) : Wg t' := by
  have nc : ∀ {k}, k ∈ t.kn → k ≠ c := fun h z => hc (by rw [← z]; exact h)
  have mem : ∀ k, k ∈ t'.kn ↔ k ∈ t.kn ∨ k = c := fun k => by rw [e1, List.mem_append, List.mem_singleton]
  refine ⟨by rw [g2, g1]; exact w.gb, by rw [g3, g1]; exact w.gh, by rw [g1]; exact w.nd, by rw [g1, g7]; exact w.lt, fun g hg k => ?_, fun g hg k => ?_, by rw [g4]; exact w.mn, by rw [g5]; exact w.bn, fun g k h => ?_, fun g k h => ?_, by rw [g1, g4]; exact w.ne, fun k hk g h => ?_, fun k hk g h => ?_, by rw [g1, g6]; exact w.ms⟩
  · rw [g1] at hg
    rw [g4, mem, w.me g hg k]
    constructor
    · rintro ⟨a, b⟩
      exact ⟨.inl a, by rw [e2 k (nc a)]; exact b⟩
    · rintro ⟨a | a, b⟩
      · rw [e2 k (nc a)] at b
        exact ⟨a, b⟩
      · rw [a, e3] at b
        cases b
  · rw [g1] at hg
    rw [g5, mem, w.be g hg k]
    constructor
    · rintro ⟨a, b⟩
      exact ⟨.inl a, by rw [e2 k (nc a)]; exact b⟩
    · rintro ⟨a | a, b⟩
      · rw [e2 k (nc a)] at b
        exact ⟨a, b⟩
      · rw [a, e4] at b
        cases b.2
  · rw [g4] at h
    exact (mem k).mpr (.inl (w.mek g k h))
  · rw [g5] at h
    exact (mem k).mpr (.inl (w.bek g k h))
  · rcases (mem k).mp hk with a | a
    · rw [e2 k (nc a)] at h ⊢
      rw [g1]
      exact w.gr k a g h
    · rw [a, e3] at h
      cases h
  · rcases (mem k).mp hk with a | a
    · rw [e2 k (nc a)] at h ⊢
      rw [g1]
      exact w.fo k a g h
    · rw [a, e4] at h
      cases h
structure Cloned (M : Nat) (t t' : Tb) (n : Int) (tru : Bool) : Prop where
  v : VwEq (rng (M + 1)) (t.vw.clone n M tru) t'.vw
  ma : ∀ k, (t'.mn k).ma = if k = M then (t.mn n).ma else (t.mn k).ma
  rv : ∀ k, (t'.mn k).rv = if k = M then (t.mn n).rv else (t.mn k).rv
  pc : ∀ k, t'.pc k = if k = M then [] else t.pc k
theorem W28.clone {M j : Nat} {t : Tb} (h : W28 M j t) {n : Int} (hn : n ∈ rng M) (tru : Bool) : W28 (M + 1) j (t.clone n tru) ∧ Cloned M t (t.clone n tru) n tru := by
  have nM : (M : Int) ∉ rng M := fun z => Int.lt_irrefl _ (mem_rng.mp z).2
  have neM : ∀ {k}, k ∈ rng M → k ≠ (M : Int) := fun hk z => nM (by rw [← z]; exact hk)
  have etp := h.tp n hn
  have eN : (t.ts.length : Int) = M := by rw [h.ts, rng_len]
  have hn' : n ∈ t.kn := by
    rw [h.kn]
    exact hn
  -- the copy without a group
  have mn4 : ∀ k, (t.clo4 n tru).mn k = if k = M then { mn0 M (t.mn n).tr (t.mn n).rv with st := (t.mn n).st, ma := (t.mn n).ma, lo := tru && (t.mn n).lo } else t.mn k := fun k => by
    unfold Tb.clo4
    dsimp only [Tb.setM, Tb.newM]
    rw [etp, h.cm, eN]
    by_cases e : k = M
    · rw [e, fu_same, if_pos rfl, fu_same]
    · rw [fu_ne e, if_neg e, fu_ne e]
  have w4 : Wg (t.clo4 n tru) := by
    refine We.newMount (c := M) h.w (by rw [h.kn]; exact nM) ?_ (fun k hk => by rw [mn4, if_neg hk]) (by rw [mn4, if_pos rfl]; rfl) (by rw [mn4, if_pos rfl]; rfl) rfl rfl rfl rfl rfl rfl rfl
    show t.kn ++ [t.cm] = _
    rw [h.cm]
  have kn4 : (t.clo4 n tru).kn = rng (M + 1) := by
    show t.kn ++ [t.cm] = _
    rw [rng_succ, h.kn, h.cm]
  have kp4 : (t.clo4 n tru).kp = rng (M + 1) := by
    show t.kp ++ [t.cm] = _
    rw [rng_succ, h.kp, h.cm]
  have ts4 : (t.clo4 n tru).ts = rng (M + 1) := by
    show t.ts ++ [(t.ts.length : Int)] = _
    rw [rng_succ, eN, h.ts]
  have os4 : (t.clo4 n tru).os = rng (M + 1) := by
    show t.os ++ [(t.ts.length : Int)] = _
    rw [rng_succ, eN, h.os]
  have cm4 : (t.clo4 n tru).cm = ((M + 1 : Nat) : Int) := by
    show t.cm + 1 = _
    rw [h.cm]
    rfl
  have tp4 : ∀ k ∈ rng (M + 1), (t.clo4 n tru).tp k = k := fun k hk => by
    show fu t.tp (t.ts.length : Int) t.cm k = k
    rw [eN]
    by_cases e : k = M
    · rw [e, fu_same, h.cm]
    · rw [fu_ne e]
      rw [rng_succ] at hk
      rcases List.mem_append.mp hk with a | a
      · exact h.tp k a
      · exact absurd (List.mem_singleton.mp a) e
  have inM : (M : Int) ∈ (t.clo4 n tru).kn := by
    rw [kn4, rng_succ]
    simp
  have lt4 : ∀ k ∈ rng (M + 1), k ≠ (M : Int) → k ∈ rng M := fun k hk e => by
    rw [rng_succ] at hk
    rcases List.mem_append.mp hk with a | a
    · exact a
    · exact absurd (List.mem_singleton.mp a) e
  have sp4 : ∀ k ∈ rng (M + 1), ((t.clo4 n tru).mn k).sp = k ∧ ((t.clo4 n tru).mn k).pa = none := fun k hk => by
    rw [mn4]
    by_cases e : k = M
    · rw [if_pos e, e]
      exact ⟨rfl, rfl⟩
    · rw [if_neg e]
      exact ⟨h.sp k (lt4 k hk e), h.pa k (lt4 k hk e)⟩
  have g0 : ((t.clo4 n tru).mn M).gr = none := by
    rw [mn4, if_pos rfl]
    rfl
  have f0 : ((t.clo4 n tru).mn M).fo = none := by
    rw [mn4, if_pos rfl]
    rfl
  have ma4 : ∀ k, ((t.clo4 n tru).mn k).ma = if k = M then (t.mn n).ma else (t.mn k).ma := fun k => by
    rw [mn4]
    split <;> rfl
  have rv4 : ∀ k, ((t.clo4 n tru).mn k).rv = if k = M then (t.mn n).rv else (t.mn k).rv := fun k => by
    rw [mn4]
    split <;> rfl
  have pc4 : ∀ k, (t.clo4 n tru).pc k = if k = M then [] else t.pc k := fun k => by
    show fu t.pc t.cm [] k = _
    rw [h.cm]
    rfl
  -- what is behind it
  have fin : ∀ t' : Tb, Wg t' → Rest (t.clo4 n tru) t' → t'.gm = t.gm → t'.ms = t.ms → (∀ k, (t'.mn k).ma = ((t.clo4 n tru).mn k).ma) → (∀ k, k ≠ (M : Int) → (t'.mn k).gr = (t.mn k).gr ∧ (t'.mn k).fo = (t.mn k).fo) → (t'.mn M).gr = (if tru = true then (t.mn n).gr else none) → (t'.mn M).fo = (match (t.mn n).gr with | none => (t.mn n).fo | some g => if tru = true then none else some g) → W28 (M + 1) j t' ∧ Cloned M t t' n tru := fun t' w' r' gm' ms' ma' ne' gr' fo' => by
    refine ⟨⟨w', by rw [r'.kn, kn4], by rw [r'.kp, kp4], by rw [r'.ts, ts4], by rw [r'.os, os4], by rw [r'.tp]; exact tp4, fun k hk => by rw [r'.mn k]; exact (sp4 k hk).1, fun k hk => by rw [r'.mn k]; exact (sp4 k hk).2, by rw [r'.cm, cm4], by rw [r'.most]; exact h.most, by rw [gm']; exact h.gl⟩, ⟨⟨fun k hk => ?_, fun k hk => ?_, gm'.symm, fun g _ => by show t.ms g = t'.ms g; rw [ms']⟩, fun k => by rw [ma', ma4], fun k => by rw [r'.mn k]; exact rv4 k, fun k => by rw [r'.pc]; exact pc4 k⟩⟩
    · show fu t.vw.gr M (if tru = true then t.vw.gr n else none) k = (t'.mn k).gr
      by_cases e : k = M
      · rw [e, fu_same, gr']
        rfl
      · rw [fu_ne e, (ne' k e).1]
        rfl
    · show fu t.vw.fo M (match t.vw.gr n with | none => t.vw.fo n | some g => if tru = true then none else some g) k = (t'.mn k).fo
      by_cases e : k = M
      · rw [e, fu_same, fo']
        rfl
      · rw [fu_ne e, (ne' k e).2]
        rfl
  unfold Tb.clone
  rw [etp, h.cm]
  have wfol : ∀ x : Option Int, (∀ g, x = some g → g ∈ t.gm) → (tru = true → (t.mn n).gr = none) → x = (match (t.mn n).gr with | none => (t.mn n).fo | some g => if tru = true then none else some g) → W28 (M + 1) j ((t.clo4 n tru).follow M x) ∧ Cloned M t ((t.clo4 n tru).follow M x) n tru := fun x hx ht ex => by
    obtain ⟨f1, f2, f3, f4, f5⟩ := follow_ms (t.clo4 n tru) M x
    refine fin _ (w4.follow inM g0 f0 hx) (follow_rest _ _ _) f2 f1 (fun k => ?_) (fun k e => ?_) ?_ ?_
    · rw [follow_mn]
      by_cases e : k = M
      · rw [e, fu_same]
      · rw [fu_ne e]
    · rw [follow_mn, fu_ne e, mn4, if_neg e]
      exact ⟨rfl, rfl⟩
    · rw [follow_mn, fu_same]
      cases tru with
      | false => rfl
      | true => rw [ht rfl]; rfl
    · rw [follow_mn, fu_same]
      exact ex
  cases eg : (t.mn n).gr with
  | none =>
    rw [eg] at wfol
    exact wfol _ (fun g hg => (h.w.fo n hn' g hg).1) (fun _ => rfl) rfl
  | some g =>
    have hg := (h.w.gr n hn' g eg).1
    cases etru : tru with
    | true =>
      rw [etru] at fin w4 inM g0 f0 mn4
      dsimp only
      refine fin _ ((w4.join inM g0 f0 hg).weak fun j hj _ => (w4.join inM g0 f0 hg).ne j hj fun z => z.1) ?_ rfl rfl (fun k => ?_) (fun k e => ?_) ?_ ?_
      · have r : Rest (t.clo4 n true) ((t.clo4 n true).setM M { (t.clo4 n true).mn M with gr := some g, fo := none }) := Rest.setM rfl
        exact ⟨r.kn, r.kp, r.pc, r.ts, r.tp, r.os, r.ow, r.cm, r.most, r.tr, r.mn⟩
      · show (fu (t.clo4 n true).mn M { (t.clo4 n true).mn M with gr := some g, fo := none } k).ma = _
        by_cases e : k = M
        · rw [e, fu_same]
        · rw [fu_ne e]
      · show (fu (t.clo4 n true).mn M { (t.clo4 n true).mn M with gr := some g, fo := none } k).gr = _ ∧ (fu (t.clo4 n true).mn M { (t.clo4 n true).mn M with gr := some g, fo := none } k).fo = _
        rw [fu_ne e, mn4, if_neg e]
        exact ⟨rfl, rfl⟩
      · show (fu (t.clo4 n true).mn M { (t.clo4 n true).mn M with gr := some g, fo := none } M).gr = _
        rw [fu_same, eg]
        rfl
      · show (fu (t.clo4 n true).mn M { (t.clo4 n true).mn M with gr := some g, fo := none } M).fo = _
        rw [fu_same, eg]
        rfl
    | false =>
      rw [eg, etru] at wfol
      exact wfol (some g) (fun k hk => by cases hk; exact hg) (fun z => by cases z) rfl
end Rp
set_option Elab.async false
set_option linter.all false
set_option autoImplicit false
set_option maxRecDepth 100000
set_option maxHeartbeats 8000000
/-! the law's own defs: _law_due -/
namespace Rp
open PySem PySem.Spec PyProof.Rows L2 Cm Ob Tx
def rNotN : R2 := fun x y H Q => y = .non ∧ Q (.bl (!decide (x = .non))) H
/-- the law's three dicts -/
structure LdAt (H : Hp) (g o a : Addr) (M : Nat) (v : Vw) : Prop where
  hg : H g = some (.dK (dk (rng M) fun k => oi (v.gr k)))
  ho : H o = some (.dK (dk v.gm fun l => oi (v.ms l)))
  ha : H a = some (.dK (dk (rng M) fun k => oi (v.fo k)))
  n1 : g ≠ o
  n2 : g ≠ a
  n3 : o ≠ a
theorem LdAt.same {H H' : Hp} {g o a : Addr} {M : Nat} {v : Vw} (h : LdAt H g o a M v) (s : Same H H') : LdAt H' g o a M v := ⟨s _ _ h.hg, s _ _ h.ho, s _ _ h.ha, h.n1, h.n2, h.n3⟩
/-- .. the first one may be walked just now -/
structure LdR (H : Hp) (g o a : Addr) (M : Nat) (v : Vw) : Prop where
  hg : L2.Rd H g (.dK (dk (rng M) fun k => oi (v.gr k)))
  ho : H o = some (.dK (dk v.gm fun l => oi (v.ms l)))
  ha : H a = some (.dK (dk (rng M) fun k => oi (v.fo k)))
theorem LdR.same {H H' : Hp} {g o a : Addr} {M : Nat} {v : Vw} (h : LdR H g o a M v) (s : Same H H') : LdR H' g o a M v := ⟨h.hg.imp (s _ _) fun ⟨od, e⟩ => ⟨od, s _ _ e⟩, s _ _ h.ho, s _ _ h.ha⟩
theorem LdAt.r {H : Hp} {g o a : Addr} {M : Nat} {v : Vw} (h : LdAt H g o a M v) : LdR H g o a M v := ⟨.inl h.hg, h.ho, h.ha⟩
theorem dget_rd {H : Hp} {a : Addr} {l : List Int} {f : Int → V} {n : Int} (h : L2.Rd H a (.dK (dk l f))) (hn : n ∈ l) : DGet H a (.int n) (some (f n)) := by
  rw [← val_dk (f := f) hn]
  exact .inl ⟨_, Sum.inl n, h, rfl, rfl⟩
/-- a comprehension over whole numbers with a test that changes nothing -/
theorem lc_filt {K : PySem.W.Frag} {a : Addr} {l : List Int} {i : Nat} {tt : TT} {vs : List Nat} {σ : L2.St} {H1 : Hp} {D : Addr} {Qd : Hp → Prop} {p : Int → Bool} (ha : SqL K H1 a (l.map V.int)) (hD : H1 D = none) (hz : l.length < sizeLine)
    (hw : ∀ x, wipe ((wipe σ vs).set i (some x)) vs = wipe σ vs) (hs : ∀ x, ((wipe σ vs).set i (some x))[i]? = some (some x))
    (ht : ∀ n ∈ l, ∀ H', Same H1 H' → ∀ R : Bool → Hp → Prop, R (p n) H' → tt ((wipe σ vs).set i (some (.int n))) H' R) (hd : ∀ H', Same H1 H' → H' D = some (.lst ((l.filter p).map V.int)) → Qd H') :
    ∃ W : Nat → Nat → Hp → Prop, (∃ m, W 0 m (upd H1 D (.lst []))) ∧ ∀ i' m H, W i' m H →
      ((Itl K a).stop i' H ∧ Qd H) ∨ ((Itl K a).go i' H ∧ ∃ Nx : Hp → Prop, (∀ H', Nx H' → ∃ m', m' < m ∧ W (i' + 1) m' H') ∧ ∀ x H', (Itl K a).yld i' H x H' → gName i x (wipe σ vs) H' fun σ2 H2 => wipe σ2 vs = wipe σ vs ∧ tt σ2 H2 fun b H3 =>
        if b = true then tVar i σ2 H3 fun y H4 => ∃ acc, H4 D = some (.lst acc) ∧ acc.length < sizeLine ∧ Nx (upd H4 D (.lst (acc ++ [y]))) else Nx H3) := by
  refine lc_list (K := K) (a := a) (xs := l.map V.int) (fun j H' => Same H1 H' ∧ H' D = some (.lst (((l.take j).filter p).map V.int))) ⟨same_new hD, upd_same⟩ (fun j H' _ h => h.1.seq ha) ?_ ?_
  · rintro j x H' hx ⟨sm, hDl⟩
    rw [List.getElem?_map] at hx
    cases en : l[j]? with
    | none =>
      rw [en] at hx
      cases hx
    | some n =>
    rw [en] at hx
    obtain rfl : V.int n = x := Option.some.inj hx
    refine ⟨hw _, ht n (List.mem_of_getElem? en) H' sm _ ?_⟩
    have hlen : (((l.take j).filter p).map V.int).length < sizeLine := by
      rw [List.length_map]
      refine Nat.lt_of_le_of_lt (List.length_filter_le _ _) (Nat.lt_of_le_of_lt ?_ hz)
      rw [List.length_take]
      exact Nat.min_le_right _ _
    by_cases e : p n = true
    · rw [if_pos e]
      refine ⟨_, hs _, _, hDl, hlen, same_mut hD sm, ?_⟩
      rw [upd_same, take_snoc en, filter_snoc, if_pos e, List.map_append]
      rfl
    · rw [if_neg e]
      refine ⟨sm, ?_⟩
      rw [hDl, take_snoc en, filter_snoc, if_neg e]
  · rintro H' ⟨sm, hDl⟩
    rw [List.length_map, List.take_of_length_le (Nat.le_refl _)] at hDl
    exact hd H' sm hDl
theorem sort_rng {M : Nat} {ys : List Int} (h1 : ys.Perm (rng M)) (h2 : ys.Pairwise (· ≤ ·)) : ys = rng M  := PySem.W.ksm_same h1 h2 ((rng_sorted M).imp fun h => Int.le_of_lt h)
def inG (v : Vw) (x : Option Int) (k : Int) : Bool := !decide (v.gr k = none) && decide (v.gr k = x)
def dueS (v : Vw) (M : Nat) (x : Option Int) : List Int := (rng M).filter (inG v x)
def dueX (v : Vw) (k : Int) : Option Int := match v.gr k with
  | none => v.fo k
  | some l => v.ms l
def dueP (v : Vw) (M : Nat) (k : Int) : List Int := match v.gr k with
  | none => [k]
  | some l => (rng M).filter fun j => decide (v.gr j = some l)
def dueK (v : Vw) (M : Nat) (k : Int) : Str := match v.gr k with
  | none => if dueS v M (dueX v k) = [] then "alone" else "following"
  | some _ => if dueS v M (dueX v k) = [] then "sharing" else "both"
theorem dp_ints {K : PySem.W.Frag} {H : Hp} : ∀ l : List Int, DpAll K H (l.map V.int) (l.map PyData.int)
  | [] => .nil
  | a :: l => .cons (.int a) (dp_ints l)
theorem dpl {K : PySem.W.Frag} {H : Hp} {p : Addr} {l : List Int} (h : H p = some (.lst (l.map V.int))) : Dp K H (.ref p) (.list (l.map PyData.int)) := .lst (SqL.of h) (dp_ints l)
theorem canLay_ints : ∀ l : List Int, PyData.canLayAll0 (l.map PyData.int) = true
  | [] => rfl
  | a :: l => by
    show (PyData.canLay0 (.int a) && PyData.canLayAll0 (l.map PyData.int)) = true
    rw [canLay_ints l]
    rfl
theorem depth_ints : ∀ l : List Int, PyData.depthAll (l.map PyData.int) ≤ 1
  | [] => by decide
  | a :: l => by
    have := depth_ints l
    simp only [List.map, PyData.depthAll, PyData.depth]
    omega
theorem shaped_ints (l : List Int) : SeqAt.shaped (.list (l.map PyData.int)) = true := by
  unfold SeqAt.shaped
  have h := depth_ints l
  rw [Bool.and_eq_true]
  refine ⟨canLay_ints l, decide_eq_true ?_⟩
  simp only [PyData.depth]
  omega
theorem eqv_nil (l : List Int) : PyData.eqv (.list (l.map PyData.int)) (.list []) = decide (l = []) := by
  cases l <;> rfl
theorem oi_ndec (o : Option Int) : (!decide (oi o = V.non)) = !decide (o = none) := by
  cases o <;> rfl
theorem oi_dec2 (a b : Option Int) : decide (oi a = oi b) = decide (a = b) := decide_eq_decide.mpr ⟨oi_inj, congrArg oi⟩
theorem scal_oi2 (a b : Option Int) : scal (oi a) (oi b) = true := by cases a <;> cases b <;> rfl
abbrev nDue : List Str := ["_law_groups", "_law_over", "_law_after", "_law_k", "_law_own", "_law_some", "_law_one"]
theorem scDue : FnScope nDue ["_law_groups", "_law_over", "_law_after", "_law_k"] (defScope sDue) := ⟨rfl, rfl, rfl, by decide +kernel, rfl, by decide +kernel, by decide +kernel⟩
def spDue : Sp := fun vs H Q _ => ∃ g o a M v k, vs = [.ref g, .ref o, .ref a, .int k] ∧ LdR H g o a M v ∧ M ≤ 10 ∧ k ∈ rng M ∧ (∀ l, v.gr k = some l → l ∈ v.gm) ∧
  ∀ H' T p1 p2, Same H H' → H' T = some (.tup [.str (dueK v M k), .ref p1, .ref p2]) → H' p1 = some (.lst ((dueP v M k).map V.int)) → H' p2 = some (.lst ((dueS v M (dueX v k)).map V.int)) → Q (.ref T) H'
section
variable {P : Program} {w : World} {K : PySem.W.Frag} {mg : Str → Option Value} {base : Heap} {f : Addr} {fd : FuncData} {k : Nat}
theorem ok_due (F : Fun K "_law_due" "_law_due" sDue f fd) (B' : Bi mg) : FnOk P w K mg base CX0 (k + 1) f fd ["_law_groups", "_law_over", "_law_after", "_law_k"] spDue := by
  refine F.ok scDue (fun vs H Q E h => ?_) (fun cdv A outer s H vs Q E hr h => ?_)
  · obtain ⟨g, o, a, M, v, k, rfl, _⟩ := h
    rfl
  · obtain ⟨g, o, a, M, v, k, rfl, h, hM, lk, lg, q⟩ := h
    have hu := units1 hr
    refine ⟨_, pss_cons (ps_set (i := 4) scDue.nd rfl (.inr rfl) (pe_dget hu (pv 0) (pv 3) (fun _ _ => rfl)))
      (pss_cons (ps_if (pt_cmpR op_isN (pv 4) pe_non (nomark _))
        (pss_cons (ps_setLc (i := 5) (own := [("_law_one", 6)]) (g := gName 6) (tt := tAnd (tTest (tOp rNotN (tDGet (tVar 0) (tVar 6)) (tC .non))) (tTest (tOp rEq (tDGet (tVar 0) (tVar 6)) (tDGet (tVar 2) (tVar 3))))) (te := tVar 6) (by rfl) scDue.nd rfl rfl rfl (pi_list (pe_callB (call_sortedDI rfl) (by rfl) B'.sorted (by decide +kernel) (pa_cons (pv 0) pa_nil))) (blkOk_by (own := [("_law_one", 6)]) (N := nDue) (sc := defScope sDue) (by decide +kernel)) (fun _ _ _ _ _ => pg_name (i := 6) scDue.nd rfl (Or.inl rfl)) (fun _ _ _ _ _ => pts_one (PW.pt (pw_and (pt_cmpR op_notN (pe_dget hu (pv 0) (pv 6) (fun _ _ => rfl)) pe_non (nomark _)) (pw_and1 (pt_cmpR op_eq (pe_dget hu (pv 0) (pv 6) (fun _ _ => rfl)) (pe_dget hu (pv 2) (pv 3) (fun _ _ => rfl)) (nomark _)))))) (fun _ _ _ _ _ => pv 6))
        (pss_one (ps_ret (pe_tup (pa_cons (pe_ix ix_list (pe_lst (pa_cons pe_str (pa_cons pe_str pa_nil))) (pe_callTy call_int1 (by rfl) B'.int (by decide +kernel) (pa_cons (pe_cmpR (op_neD hr.units) (pv 5) (pe_lst pa_nil) (nomark _)) pa_nil)) (fun _ _ => rfl)) (pa_cons (pe_lst (pa_cons (pv 3) pa_nil)) (pa_cons (pv 5) pa_nil)))))))
        pss_nil)
      (pss_cons (ps_setLc (i := 5) (own := [("_law_one", 6)]) (g := gName 6) (tt := tAnd (tTest (tOp rNotN (tDGet (tVar 0) (tVar 6)) (tC .non))) (tTest (tOp rEq (tDGet (tVar 0) (tVar 6)) (tDGet (tVar 1) (tVar 4))))) (te := tVar 6) (by rfl) scDue.nd rfl rfl rfl (pi_list (pe_callB (call_sortedDI rfl) (by rfl) B'.sorted (by decide +kernel) (pa_cons (pv 0) pa_nil))) (blkOk_by (own := [("_law_one", 6)]) (N := nDue) (sc := defScope sDue) (by decide +kernel)) (fun _ _ _ _ _ => pg_name (i := 6) scDue.nd rfl (Or.inl rfl)) (fun _ _ _ _ _ => pts_one (PW.pt (pw_and (pt_cmpR op_notN (pe_dget hu (pv 0) (pv 6) (fun _ _ => rfl)) pe_non (nomark _)) (pw_and1 (pt_cmpR op_eq (pe_dget hu (pv 0) (pv 6) (fun _ _ => rfl)) (pe_dget hu (pv 1) (pv 4) (fun _ _ => rfl)) (nomark _)))))) (fun _ _ _ _ _ => pv 6))
      (pss_one (ps_ret (pe_tup (pa_cons (pe_ix ix_list (pe_lst (pa_cons pe_str (pa_cons pe_str pa_nil))) (pe_callTy call_int1 (by rfl) B'.int (by decide +kernel) (pa_cons (pe_cmpR (op_neD hr.units) (pv 5) (pe_lst pa_nil) (nomark _)) pa_nil)) (fun _ _ => rfl))
        (pa_cons (pe_lc (own := [("_law_one", 6)]) (g := gName 6) (tt := tTest (tOp rEq (tDGet (tVar 0) (tVar 6)) (tVar 4))) (te := tVar 6) (by rfl) scDue.nd (pi_list (pe_callB (call_sortedDI rfl) (by rfl) B'.sorted (by decide +kernel) (pa_cons (pv 0) pa_nil))) (blkOk_by (own := [("_law_one", 6)]) (N := nDue) (sc := defScope sDue) (by decide +kernel)) (fun _ _ _ _ _ => pg_name (i := 6) scDue.nd rfl (Or.inl rfl)) (fun _ _ _ _ _ => pts_one (pt_cmpR op_eq (pe_dget hu (pv 0) (pv 6) (fun _ _ => rfl)) (pv 4) (nomark _))) (fun _ _ _ _ _ => pv 6))
        (pa_cons (pv 5) pa_nil)))))))), ?_⟩
    refine ⟨_, rfl, _, rfl, g, _, rfl, dget_rd h.hg lk, _, rfl, rfl, _, rfl, ?_⟩
    have h64 : (rng M).length < 64 := by rw [rng_len]; omega
    have hsz : (rng M).length < sizeLine := sz5 (by rw [rng_len]; omega)
    have test : ∀ (x : Option Int) (tx : TE) (σ : L2.St) (n : Int) (H' : Hp) (R : Bool → Hp → Prop), n ∈ rng M → LdR H' g o a M v → σ[0]? = some (some (.ref g)) → σ[6]? = some (some (.int n)) → (∀ R2 : VK, R2 (oi x) H' → tx σ H' R2) → R (inG v x n) H' → tAnd (tTest (tOp rNotN (tDGet (tVar 0) (tVar 6)) (tC .non))) (tTest (tOp rEq (tDGet (tVar 0) (tVar 6)) tx)) σ H' R := fun x tx σ n H' R hn h' e0 e6 hx r => by
      refine ⟨_, e0, _, e6, g, _, rfl, dget_rd h'.hg hn, rfl, _, rfl, ?_⟩
      unfold inG at r
      rw [oi_ndec]
      cases eg : v.gr n with
      | none =>
        rw [eg] at r
        exact iteF r
      | some l =>
        rw [eg] at r
        refine iteT ⟨_, e0, _, e6, g, _, rfl, dget_rd h'.hg hn, hx _ ⟨by rw [eg]; exact scal_oi2 _ _, _, rfl, ?_⟩⟩
        rw [eg, oi_dec2]
        exact r
    cases eg : v.gr k with
    | none =>
      refine iteT ⟨_, rfl, g, _, rng M, rfl, h.hg, keys_dk _ _, h64, fun ys p hy1 hy2 hp => ?_⟩
      rw [sort_rng hy1 hy2]
      have s1 := same_new (o := HO.lst ((rng M).map V.int)) hp
      have hp1 : upd H p (.lst ((rng M).map V.int)) p = some (.lst ((rng M).map V.int)) := upd_same
      generalize hH1 : upd H p (.lst ((rng M).map V.int)) = H1 at s1 hp1 ⊢
      refine ⟨p, rfl, ⟨_, SqL.of hp1⟩, fun D hD => lc_filt (p := inG v (v.fo k)) (SqL.of hp1) hD hsz (fun _ => rfl) (fun _ => rfl) (fun n hn H' sm R r => test (v.fo k) _ _ n H' R hn ((h.same s1).same sm) rfl rfl (fun R2 r2 => ⟨_, rfl, _, rfl, a, _, rfl, dget_dk ((h.same s1).same sm).ha lk, r2⟩) r) (fun H2 s2 hD2 => ?_)⟩
      have sA := s1.trans s2
      have hDf : H2 D = some (.lst ((dueS v M (dueX v k)).map V.int)) := by
        rw [hD2]
        unfold dueX
        rw [eg]
        rfl
      refine ⟨by show 2 ≤ sizeLine; decide, fun p3 hp3 => ?_⟩
      have s3 := same_new (o := HO.lst [.str "alone", .str "following"]) hp3
      have hp3' : upd H2 p3 (.lst [.str "alone", .str "following"]) p3 = some (.lst [.str "alone", .str "following"]) := upd_same
      generalize hH3 : upd H2 p3 (.lst [.str "alone", .str "following"]) = H3 at s3 hp3' ⊢
      refine ⟨_, rfl, by show 0 ≤ sizeLine; decide, fun p4 hp4 => ?_⟩
      have s4 := same_new (o := HO.lst []) hp4
      have hp4' : upd H3 p4 (.lst []) p4 = some (.lst []) := upd_same
      generalize hH4 : upd H3 p4 (.lst []) = H4 at s4 hp4' ⊢
      refine ⟨_, .list [], dpl (s4 _ _ (s3 _ _ hDf)), .lst (SqL.of hp4') .nil, shaped_ints _, by decide, .inr ⟨_, rfl, ?_⟩⟩
      rw [eqv_nil]
      have fin : ∀ kind : Str, kind = dueK v M k → (∃ vs, vs = [V.int k] ∧ _root_.True) → ∀ p5, H4 p5 = none → ∀ T, upd H4 p5 (.lst [.int k]) T = none → Q (.ref T) (upd (upd H4 p5 (.lst [.int k])) T (.tup [.str kind, .ref p5, .ref D])) := fun kind ek _ p5 hp5 T hT => by
        have s5 := same_new (o := HO.lst [V.int k]) hp5
        have s6 := same_new (o := HO.tup [.str kind, .ref p5, .ref D]) hT
        refine q _ T p5 D ((sA.trans (s3.trans s4)).trans (s5.trans s6)) (by rw [upd_same, ek]) ?_ (s6 _ _ (s5 _ _ (s4 _ _ (s3 _ _ hDf))))
        rw [s6 _ _ upd_same]
        unfold dueP
        rw [eg]
        rfl
      by_cases ed : dueS v M (dueX v k) = []
      · rw [decide_eq_true ed]
        refine ⟨p3, _, 0, .str "alone", rfl, rfl, SqL.of (s4 _ _ hp3'), rfl, ?_⟩
        exact ⟨_, rfl, by show 1 ≤ sizeLine; decide, fun p5 hp5 => ⟨_, rfl, by show 3 ≤ sizeLine; decide, fun T hT => fin "alone" (by unfold dueK; rw [eg]; simp only [ed, if_true]) ⟨_, rfl, trivial⟩ p5 hp5 T hT⟩⟩
      · rw [decide_eq_false ed]
        refine ⟨p3, _, 1, .str "following", rfl, rfl, SqL.of (s4 _ _ hp3'), rfl, ?_⟩
        exact ⟨_, rfl, by show 1 ≤ sizeLine; decide, fun p5 hp5 => ⟨_, rfl, by show 3 ≤ sizeLine; decide, fun T hT => fin "following" (by unfold dueK; rw [eg]; simp only [ed, if_false]) ⟨_, rfl, trivial⟩ p5 hp5 T hT⟩⟩
    | some l =>
      have ll := lg l eg
      refine iteF ⟨_, rfl, g, _, rng M, rfl, h.hg, keys_dk _ _, h64, fun ys p hy1 hy2 hp => ?_⟩
      rw [sort_rng hy1 hy2]
      have s1 := same_new (o := HO.lst ((rng M).map V.int)) hp
      have hp1 : upd H p (.lst ((rng M).map V.int)) p = some (.lst ((rng M).map V.int)) := upd_same
      generalize hH1 : upd H p (.lst ((rng M).map V.int)) = H1 at s1 hp1 ⊢
      refine ⟨p, rfl, ⟨_, SqL.of hp1⟩, fun D hD => lc_filt (p := inG v (v.ms l)) (SqL.of hp1) hD hsz (fun _ => rfl) (fun _ => rfl) (fun n hn H' sm R r => test (v.ms l) _ _ n H' R hn ((h.same s1).same sm) rfl rfl (fun R2 r2 => ⟨_, rfl, _, rfl, o, _, rfl, dget_dk ((h.same s1).same sm).ho ll, r2⟩) r) (fun H2 s2 hD2 => ?_)⟩
      have sA := s1.trans s2
      have hDf : H2 D = some (.lst ((dueS v M (dueX v k)).map V.int)) := by
        rw [hD2]
        unfold dueX
        rw [eg]
        rfl
      refine ⟨by show 2 ≤ sizeLine; decide, fun p3 hp3 => ?_⟩
      have s3 := same_new (o := HO.lst [.str "sharing", .str "both"]) hp3
      have hp3' : upd H2 p3 (.lst [.str "sharing", .str "both"]) p3 = some (.lst [.str "sharing", .str "both"]) := upd_same
      generalize hH3 : upd H2 p3 (.lst [.str "sharing", .str "both"]) = H3 at s3 hp3' ⊢
      refine ⟨_, rfl, by show 0 ≤ sizeLine; decide, fun p4 hp4 => ?_⟩
      have s4 := same_new (o := HO.lst []) hp4
      have hp4' : upd H3 p4 (.lst []) p4 = some (.lst []) := upd_same
      generalize hH4 : upd H3 p4 (.lst []) = H4 at s4 hp4' ⊢
      refine ⟨_, .list [], dpl (s4 _ _ (s3 _ _ hDf)), .lst (SqL.of hp4') .nil, shaped_ints _, by decide, .inr ⟨_, rfl, ?_⟩⟩
      rw [eqv_nil]
      have s04 := sA.trans (s3.trans s4)
      have h4 := h.same s04
      by_cases ed : dueS v M (dueX v k) = []
      · rw [decide_eq_true ed]
        refine ⟨p3, _, 0, .str "sharing", rfl, rfl, SqL.of (s4 _ _ hp3'), rfl, ?_⟩
        refine ⟨_, rfl, g, _, rng M, rfl, h4.hg, keys_dk _ _, h64, fun ys p hy1 hy2 hp => ?_⟩
        rw [sort_rng hy1 hy2]
        have s5 := same_new (o := HO.lst ((rng M).map V.int)) hp
        have hp5 : upd H4 p (.lst ((rng M).map V.int)) p = some (.lst ((rng M).map V.int)) := upd_same
        generalize hH5 : upd H4 p (.lst ((rng M).map V.int)) = H5 at s5 hp5 ⊢
        refine ⟨p, rfl, ⟨_, SqL.of hp5⟩, fun D2 hD2' => lc_filt (p := fun j => decide (v.gr j = some l)) (SqL.of hp5) hD2' hsz (fun _ => rfl) (fun _ => rfl) (fun n hn H' sm R r => ?_) (fun H6 s6 hD6 => ?_)⟩
        · refine ⟨_, rfl, _, rfl, g, _, rfl, dget_rd ((h4.same s5).same sm).hg hn, _, rfl, scal_oi _ _, _, rfl, ?_⟩
          rw [oi_dec2]
          exact r
        · refine ⟨_, rfl, by show 3 ≤ sizeLine; decide, fun T hT => ?_⟩
          have s7 := same_new (o := HO.tup [.str "sharing", .ref D2, .ref D]) hT
          refine q _ T D2 D (s04.trans ((s5.trans s6).trans s7)) ?_ ?_ (s7 _ _ (s6 _ _ (s5 _ _ (s4 _ _ (s3 _ _ hDf)))))
          · rw [upd_same]
            unfold dueK
            rw [eg]
            simp only [ed, if_true]
          · rw [s7 _ _ hD6]
            unfold dueP
            rw [eg]
      · rw [decide_eq_false ed]
        refine ⟨p3, _, 1, .str "both", rfl, rfl, SqL.of (s4 _ _ hp3'), rfl, ?_⟩
        refine ⟨_, rfl, g, _, rng M, rfl, h4.hg, keys_dk _ _, h64, fun ys p hy1 hy2 hp => ?_⟩
        rw [sort_rng hy1 hy2]
        have s5 := same_new (o := HO.lst ((rng M).map V.int)) hp
        have hp5 : upd H4 p (.lst ((rng M).map V.int)) p = some (.lst ((rng M).map V.int)) := upd_same
        generalize hH5 : upd H4 p (.lst ((rng M).map V.int)) = H5 at s5 hp5 ⊢
        refine ⟨p, rfl, ⟨_, SqL.of hp5⟩, fun D2 hD2' => lc_filt (p := fun j => decide (v.gr j = some l)) (SqL.of hp5) hD2' hsz (fun _ => rfl) (fun _ => rfl) (fun n hn H' sm R r => ?_) (fun H6 s6 hD6 => ?_)⟩
        · refine ⟨_, rfl, _, rfl, g, _, rfl, dget_rd ((h4.same s5).same sm).hg hn, _, rfl, scal_oi _ _, _, rfl, ?_⟩
          rw [oi_dec2]
          exact r
        · refine ⟨_, rfl, by show 3 ≤ sizeLine; decide, fun T hT => ?_⟩
          have s7 := same_new (o := HO.tup [.str "both", .ref D2, .ref D]) hT
          refine q _ T D2 D (s04.trans ((s5.trans s6).trans s7)) ?_ ?_ (s7 _ _ (s6 _ _ (s5 _ _ (s4 _ _ (s3 _ _ hDf)))))
          · rw [upd_same]
            unfold dueK
            rw [eg]
            simp only [ed, if_false]
          · rw [s7 _ _ hD6]
            unfold dueP
            rw [eg]
end
end Rp
set_option autoImplicit true
set_option Elab.async false
set_option linter.all false
set_option maxRecDepth 100000
set_option maxHeartbeats 4000000
/-! list(d.values()) -/
namespace LvX
open PySem PySem.Spec PyProof.Rows L2
def tListVals (te : TE) : TE := fun σ H Q => te σ H fun x H1 => ∃ (d : Addr) (kvs : List (Key × V)), x = .ref d ∧ H1 d = some (.dK kvs) ∧ ∀ q, H1 q = none → Q (.ref q) (upd H1 q (.lst (kvs.map (·.2))))
theorem vals_at {kvs : List (Key × V)} {vs : List (Key × Value)} (kv : KV kvs vs) : ∀ {us : List Value}, us.length = vs.length → (∀ (j : Nat) (v : Value), us[j]? = some v → ∃ k : Key, vs[j]? = some (k, v)) → Vals (kvs.map (·.2)) us := by
  unfold KV at kv
  induction kv with
  | nil =>
    intro us h _
    cases us with
    | nil => exact .nil
    | cons _ _ => cases h
  | cons r t ih =>
    intro us h g
    cases us with
    | nil => cases h
    | cons u us =>
      obtain ⟨k, e⟩ := g 0 u rfl
      have e := Option.some.inj (show some _ = some (k, u) from e)
      refine .cons ?_ (ih (Nat.succ.inj h) fun j v hj => g (j + 1) v hj)
      have r2 := r.2
      rw [e] at r2
      exact r2
section
variable {X : Cx} {e : Expr} {te : TE} {p apos cpos pos : Pos}
theorem pe_listVals (hc : X.calm = true) (he : PE X e te) (hg : Gl X "list") (hm : X.mg "list" = none) (hv : bootBuiltins "list" = some (.type "list")) (hbase : attributeBase e "values" X.env (eval e X.env) = eval e X.env := by rfl) (hline : (apos.endLine == cpos.line) = true := by rfl)
    (hs : starEach [.Call (.Attribute e "values" apos) [] [] cpos] X.env = (false, eval (.Call (.Attribute e "values" apos) [] [] cpos) X.env) :: starEach [] X.env := by rfl) :
    PE X (.Call (.Name "list" p) [.Call (.Attribute e "values" apos) [] [] cpos] [] pos) (tListVals te) := by
  refine ⟨fun pins s σ H Q I hq => ?_⟩
  refine wpAny_Call_Name_kw (ld_blt I hg hm hv ?_)
  refine PyProof.Rows.callWith_type1 ?_ hs rfl
  rw [hs]
  show wpAny _ _ (spliced ((false, eval (.Call (.Attribute e "values" apos) [] [] cpos) X.env) :: backTo pos (starEach [] X.env))) _ _ s
  refine Calls.spliced_cons ?_
  refine wpAny_Call_method (T := "dict") (id := "dict.values") hbase rfl hline F.plainAttrs_dict F.slot_dict_values F.type_dict_values (thn (he.run pins s σ H _ I hq) fun u s1 ⟨x, H1, I1, rx, d, kvs, ex, hd, q⟩ => ?_)
  subst ex
  obtain rfl : u = Value.ref d := rx
  obtain ⟨hz, hs0, vs, kv, hdo⟩ := I1.hok d _ hd
  obtain ⟨ep, hat⟩ := hdo.dictAt
  have lk : kvs.length = vs.length := Paired.length kv
  have I2 : Inv X pins σ H1 { s1 with heap := s1.heap.push { cls := .type "dict_values", data := .fields #[.ref d] } } := I1.kept (t' := s1.toks) fun b ob q => Heap.get?_push_of_some _ q
  refine ⟨hdo.typeIs, hdo.mapOf.noDict, ?_⟩
  show wpAny _ _ (callWith cpos (.builtin "dict.values") [.ref d] [] []) _ X.xe s1
  refine method_meetsIn F.slot_dict_values F.entry_dict_values rfl (PySem.evalArgs_none ⟨rfl, hdo.typeIs, F.args_dict_values_1 _, _, meets_dict_values (mixKind X.prog X.w) d hs0, ⟨vs, hdo⟩, ?_⟩)
  refine Calls.spliced_nil ?_
  refine PySem.W.kdl_call (PySem.W.kdl_values (knd := mixKind X.prog X.w) (kvs := vs) (ep := ep)) (I1.ok.hd hc) ⟨⟨_, Heap.get?_push_size _ rfl, rfl, rfl⟩, hat.push _⟩ (by omega) fun h' tk acc c hk hS hacc => ?_
  have hv2 : Vals (kvs.map (·.2)) acc.toList := vals_at kv (by rw [Array.length_toList]; exact hacc.1) fun j v ej => hacc.2 j v (by rw [← Array.getElem?_toList]; exact ej)
  exact ⟨.ref _, upd H1 _ (.lst (kvs.map (·.2))), I2.laid (t' := tk) hk (Nat.le_refl _) (show ObjOk X.prog X.w _ _ _ (.lst (kvs.map (·.2))) from ⟨by rw [List.length_map]; exact hz, acc.toList, c, hv2, by rw [Array.toArray_toList]; exact hS⟩), rfl, q _ (I2.hok.fresh (Nat.le_refl _))⟩
end
end LvX
set_option Elab.async false
set_option linter.all false
set_option autoImplicit false
set_option maxRecDepth 100000
set_option maxHeartbeats 8000000
/-! _law_ended -/
namespace Rp
open PySem PySem.Spec PyProof.Rows L2 Cm Ob Tx
abbrev nEn : List Str := ["_law_groups", "_law_over", "_law_after", "_law_group", "_law_held", "_law_one"]
theorem scEn : FnScope nEn ["_law_groups", "_law_over", "_law_after"] (defScope sEnded) := ⟨rfl, rfl, rfl, by decide +kernel, rfl, by decide +kernel, by decide +kernel⟩
def forBody : Stmt → List Stmt
  | .For _ _ b _ _ => b
  | _ => []
def stN0 : Stmt := (defBody sEnded).getD 0 (.Pass ⟨0, 0, 0, 0⟩)
def stN1 : Stmt := (forBody stN0).getD 0 (.Pass ⟨0, 0, 0, 0⟩)
def stN2 : Stmt := (forBody stN1).getD 0 (.Pass ⟨0, 0, 0, 0⟩)
abbrev XN (P : Program) (w : World) (K : PySem.W.Frag) (mg : Str → Option Value) (base : Heap) (f : Addr) (cdv : Value) (A : Around) (outer : List Env) (s : Shared) (H0 : Hp) (E : XK) : Cx := (cxOf CX0 P w K mg base nEn "_law_ended" (defScope sEnded) f cdv A outer s H0 E).nox
/-- where the value of the group stands in over: in the dict that is changed, or in another one -/
def OvAt (H : Hp) (o hd : Addr) (lk : List Int) (f : Int → Option Int) (grp : Int) (x : Option Int) : Prop := grp ∈ lk ∧ o = hd ∧ f grp = x ∧ x ≠ some grp ∨ o ≠ hd ∧ ∃ (l2 : List Int) (f2 : Int → Option Int), H o = some (.dK (dk l2 fun j => oi (f2 j))) ∧ grp ∈ l2 ∧ f2 grp = x
def isF (f : Int → Option Int) (g k : Int) : Bool := decide (f k = some g)
section
variable {P : Program} {w : World} {K : PySem.W.Frag} {mg : Str → Option Value} {base : Heap} {f : Addr} {cdv : Value} {A : Around} {outer : List Env} {s : Shared} {H0 : Hp} {E : XK}
theorem hInner (hr : Room 1 (XN P w K mg base f cdv A outer s H0 E).A) : ∃ t, PS (XN P w K mg base f cdv A outer s H0 E) stN2 t ∧ ∀ (D : Ends) (H : Hp) (g o a hd : Addr) (grp : Int) (y : Option V) (lk : List Int) (fv : Int → Option Int) (x : Option Int),
    H hd = some (.dK (dk lk fun j => oi (fv j))) → lk.length ≤ 1000 → OvAt H o hd lk fv grp x →
    (∀ H' y', But hd H H' → H' hd = some (.dK (dk lk fun j => oi (if fv j = some grp then x else fv j))) → D.nx [some (.ref g), some (.ref o), some (.ref a), some (.int grp), some (.ref hd), y'] H') →
    t D [some (.ref g), some (.ref o), some (.ref a), some (.int grp), some (.ref hd), y] H := by
  have hu := units1 hr
  refine ⟨_, ps_for PassesOwn.never rfl (pi_list (pe_lock (pe_lc (own := [("_law_one", 5)]) (g := gName 5) (tt := tTest (tOp rEq (tDGet (tVar 4) (tVar 5)) (tVar 3))) (te := tVar 5) (by rfl) scEn.nd (pi_keys (pv 4)) (blkOk_by (own := [("_law_one", 5)]) (N := nEn) (sc := defScope sEnded) (by decide +kernel)) (fun _ _ _ _ _ => pg_name (i := 5) scEn.nd rfl (Or.inl rfl)) (fun _ _ _ _ _ => pts_one (pt_cmpR op_eq (pe_dget hu (pv 4) (pv 5) (fun _ _ => rfl)) (pv 3) (nomark _))) (fun _ _ _ _ _ => pv 5))))
    (pg_name (i := 5) scEn.nd rfl (Or.inl rfl)) (pss_one (ps_dput hu (pv 4) (pv 5) (pe_dget hu (pv 1) (pv 3) (fun _ _ => rfl)) rfl)), ?_⟩
  intro D0 H g o a hd grp y lk fv x hH hz hov q
  refine ⟨hd, _, hH, trivial, fun od => ?_⟩
  have hm1 : upd H hd (.frz od (.dK (dk lk fun j => oi (fv j)))) hd = some (.frz od (.dK (dk lk fun j => oi (fv j)))) := upd_same
  refine ⟨_, rfl, hd, od, rfl, .inl ⟨_, hm1, fun D hD => lc_it walk_keys (fun i H' => H' D = some (.lst (((lk.take i).filter (isF fv grp)).map V.int)) ∧ Same (upd H hd (.frz od (.dK (dk lk fun j => oi (fv j))))) H') ⟨upd_same, same_new hD⟩ (fun i H' _ h => h.2 _ _ hm1) ?_ ?_⟩⟩
  · rintro i y2 H2' H2 hi ⟨h2, sm⟩ ⟨rfl, kk, vv, hkv, rfl⟩
    have hi' : i < lk.length := by
      rw [dk_len] at hi
      exact hi
    have hn : lk[i]? = some lk[i] := List.getElem?_eq_getElem hi'
    generalize hnn : lk[i] = n at hn
    have ek : kk = Sum.inl n := by
      unfold dk at hkv
      rw [List.getElem?_map, hn] at hkv
      exact (congrArg Prod.fst (Option.some.inj hkv)).symm
    subst ek
    have ln : n ∈ lk := List.mem_of_getElem? hn
    refine ⟨rfl, _, rfl, _, rfl, hd, oi (fv n), rfl, ?_, _, rfl, scal_oi _ _, _, rfl, ?_⟩
    · rw [← val_dk (f := fun g => oi (fv g)) ln]
      exact .inl ⟨_, Sum.inl n, .inr ⟨od, sm _ _ hm1⟩, rfl, rfl⟩
    · have e0 : decide (oi (fv n) = V.int grp) = isF fv grp n := oi_dec2 (fv n) (some grp)
      rw [show decide (oi (fv n) = V.int grp) = isF fv grp n from e0, take_snoc hn, filter_snoc]
      cases e : isF fv grp n with
      | false => exact iteF ⟨by rw [if_neg (by simp)]; exact h2, sm⟩
      | true =>
        refine iteT ⟨_, rfl, _, h2, sz5 ?_, ?_, same_mut hD sm⟩
        · rw [List.length_map]
          refine Nat.le_trans (List.length_filter_le _ _) ?_
          rw [List.length_take]
          exact Nat.le_trans (Nat.min_le_right _ _) (by omega)
        · rw [upd_same, if_pos rfl, List.map_append]
          rfl
  · rintro H1 ⟨h1, sm⟩
    rw [dk_len, List.take_of_length_le (Nat.le_refl _)] at h1
    have sU := unlock hH sm
    have nD : D ≠ hd := fun e => by
      rw [e, upd_same] at hD
      cases hD
    have hD0 : H D = none := by
      rw [upd_ne nD] at hD
      exact hD
    have hDm : upd H1 hd (.dK (dk lk fun j => oi (fv j))) D = some (.lst ((lk.filter (isF fv grp)).map V.int)) := by
      rw [upd_ne nD]
      exact h1
    refine ⟨sm _ _ hm1, D, rfl, ⟨_, SqL.of hDm⟩, ?_⟩
    have hU : upd H1 hd (.dK (dk lk fun j => oi (fv j))) hd = some (.dK (dk lk fun j => oi (fv j))) := upd_same
    generalize hH2 : upd H1 hd (.dK (dk lk fun j => oi (fv j))) = H2 at hDm sU hU ⊢
    refine for_list (K := K) (a := D) (xs := (lk.filter (isF fv grp)).map V.int) (fun i σ H' => (∃ y', σ = [some (.ref g), some (.ref o), some (.ref a), some (.int grp), some (.ref hd), y']) ∧ H' D = some (.lst ((lk.filter (isF fv grp)).map V.int)) ∧ H' hd = some (.dK (dk lk fun j => oi (if j ∈ (lk.filter (isF fv grp)).take i then x else fv j))) ∧ But hd H2 H') ⟨⟨_, rfl⟩, hDm, ?_, But.refl _ _⟩ (fun i σ H' _ p => SqL.of p.2.1) ?_ ?_
    · rw [hU]
      refine congrArg some (congrArg HO.dK (dk_cong fun j _ => ?_))
      rw [List.take_zero]
      simp
    · rintro i y2 σ H3 hy ⟨⟨x1, rfl⟩, hD3, h3, b3⟩
      rw [List.getElem?_map] at hy
      cases en : (lk.filter (isF fv grp))[i]? with
      | none =>
        rw [en] at hy
        cases hy
      | some n =>
      rw [en] at hy
      have hy : V.int n = y2 := Option.some.inj hy
      subst hy
      have hf := List.mem_filter.mp (List.mem_of_getElem? en)
      have ln : n ∈ lk := hf.1
      have lf : fv n = some grp := of_decide_eq_true hf.2
      have hg : DGet H3 o (.int grp) (some (oi x)) := by
        rcases hov with ⟨l1, e1, e2, e3⟩ | ⟨ne, l2, f2, ho, lg, e2⟩
        · subst e1
          have hx : (if grp ∈ (lk.filter (isF fv grp)).take i then x else fv grp) = x := by
            split
            · rfl
            · exact e2
          have := dget_dk (f := fun j => oi (if j ∈ (lk.filter (isF fv grp)).take i then x else fv j)) h3 l1
          rw [hx] at this
          exact this
        · have := dget_dk (f := fun j => oi (f2 j)) (b3 o _ ne (sU _ _ ho)) lg
          rw [e2] at this
          exact this
      refine ⟨_, rfl, _, rfl, o, _, rfl, hg, _, rfl, _, rfl, hd, _, rfl, DPut.k (k := (Sum.inl n : Key)) h3 (sz5 (by rw [dk_len]; omega)), ?_⟩
      refine ⟨⟨_, rfl⟩, by rw [upd_ne nD]; exact hD3, ?_, b3.trans But.upd⟩
      rw [upd_same, put_dk ln]
      refine congrArg some (congrArg HO.dK (dk_cong fun k _ => ?_))
      rw [take_snoc en]
      by_cases e : k = n
      · rw [e, fu_same, if_pos (by simp)]
      · rw [fu_ne e]
        simp [e]
    · rintro σ H3 ⟨⟨x1, rfl⟩, hD3, h3, b3⟩
      rw [List.length_map, List.take_of_length_le (Nat.le_refl _)] at h3
      refine q H3 x1 (fun b u nb hb => b3 b u nb (sU _ _ hb)) ?_
      rw [h3]
      refine congrArg some (congrArg HO.dK (dk_cong fun k hk => ?_))
      by_cases e : fv k = some grp
      · have hm : k ∈ lk.filter (isF fv grp) := List.mem_filter.mpr ⟨hk, decide_eq_true e⟩
        rw [if_pos hm, if_pos e]
      · have hm : k ∉ lk.filter (isF fv grp) := fun z => e (of_decide_eq_true (List.mem_filter.mp z).2)
        rw [if_neg hm, if_neg e]
/-- the two dicts of masters may change -/
def But2 (o a : Addr) (H H' : Hp) : Prop := ∀ b u, b ≠ o → b ≠ a → H b = some u → H' b = some u
theorem But2.trans {o a : Addr} {H H1 H2 : Hp} (x : But2 o a H H1) (y : But2 o a H1 H2) : But2 o a H H2 := fun b u n1 n2 h => y b u n1 n2 (x b u n1 n2 h)
theorem Same.but2 {H H' : Hp} (o a : Addr) (s : Same H H') : But2 o a H H' := fun b u _ _ h => s b u h
def Vw.repl (v : Vw) (g : Int) : Vw := ⟨v.gr, fun k => if v.fo k = some g then v.ms g else v.fo k, v.gm, fun j => if v.ms j = some g then v.ms g else v.ms j⟩
theorem hMid (hr : Room 1 (XN P w K mg base f cdv A outer s H0 E).A) : ∃ t, PS (XN P w K mg base f cdv A outer s H0 E) stN1 t ∧ ∀ (D : Ends) (H : Hp) (g o a : Addr) (M : Nat) (v : Vw) (grp : Int) (y4 y5 : Option V),
    LdAt H g o a M v → M ≤ 10 → v.gm.length ≤ 60 → grp ∈ v.gm → v.ms grp ≠ some grp →
    (∀ H' y4' y5', But2 o a H H' → LdAt H' g o a M (v.repl grp) → D.nx [some (.ref g), some (.ref o), some (.ref a), some (.int grp), y4', y5'] H') →
    t D [some (.ref g), some (.ref o), some (.ref a), some (.int grp), y4, y5] H := by
  obtain ⟨t, ht, hq⟩ := hInner (P := P) (w := w) (K := K) (mg := mg) (base := base) (f := f) (cdv := cdv) (A := A) (outer := outer) (s := s) (H0 := H0) (E := E) hr
  refine ⟨_, ps_for PassesOwn.never rfl (pi_list (pe_lst (pa_cons (pv 1) (pa_cons (pv 2) pa_nil)))) (pg_name (i := 4) scEn.nd rfl (Or.inr rfl)) (pss_one ht), ?_⟩
  intro D0 H g o a M v grp y4 y5 h hM hz lg hs q
  refine ⟨_, rfl, _, rfl, by show 2 ≤ sizeLine; decide, fun p hp => ?_⟩
  have s1 := same_new (o := HO.lst [.ref o, .ref a]) hp
  have hp1 : upd H p (.lst [.ref o, .ref a]) p = some (.lst [.ref o, .ref a]) := upd_same
  generalize hH1 : upd H p (.lst [.ref o, .ref a]) = H1 at s1 hp1 ⊢
  have h1 := h.same s1
  have npo : p ≠ o := ne_of_none h.ho hp |>.symm
  have npa : p ≠ a := ne_of_none h.ha hp |>.symm
  refine ⟨p, rfl, ⟨_, SqL.of hp1⟩, ?_⟩
  refine for_list (K := K) (a := p) (xs := [V.ref o, V.ref a]) (fun i σ H' => (∃ y4' y5', σ = [some (.ref g), some (.ref o), some (.ref a), some (.int grp), y4', y5']) ∧ H' p = some (.lst [.ref o, .ref a]) ∧ But2 o a H1 H' ∧
      ((i = 0 ∧ LdAt H' g o a M v) ∨ (i = 1 ∧ LdAt H' g o a M ⟨v.gr, v.fo, v.gm, (v.repl grp).ms⟩) ∨ (i = 2 ∧ LdAt H' g o a M (v.repl grp)))) ⟨⟨_, _, rfl⟩, hp1, fun b u _ _ z => z, .inl ⟨rfl, h1⟩⟩ (fun i σ H' _ z => SqL.of z.2.1) ?_ ?_
  · rintro i y σ H' hy ⟨⟨y4', y5', rfl⟩, hp', b', ⟨rfl, h'⟩ | ⟨rfl, h'⟩ | ⟨rfl, h'⟩⟩
    · obtain rfl := Option.some.inj hy
      refine hq _ H' g o a o grp y5' v.gm v.ms (v.ms grp) h'.ho (by omega) (.inl ⟨lg, rfl, rfl, hs⟩) fun H2 y2 b2 h2 => ?_
      refine ⟨⟨_, _, rfl⟩, b2 p _ npo hp', fun b u n1 n2 hb => b2 b u n1 (b' b u n1 n2 hb), .inr (.inl ⟨rfl, b2 g _ h'.n1 h'.hg, h2, b2 a _ h'.n3.symm h'.ha, h'.n1, h'.n2, h'.n3⟩)⟩
    · obtain rfl := Option.some.inj hy
      have e2 : (v.repl grp).ms grp = v.ms grp := by
        show (if v.ms grp = some grp then v.ms grp else v.ms grp) = _
        split <;> rfl
      refine hq _ H' g o a a grp y5' (rng M) v.fo (v.ms grp) h'.ha (by rw [rng_len]; omega) (.inr ⟨h'.n3, v.gm, (v.repl grp).ms, h'.ho, lg, e2⟩) fun H2 y2 b2 h2 => ?_
      refine ⟨⟨_, _, rfl⟩, b2 p _ npa hp', fun b u n1 n2 hb => b2 b u n2 (b' b u n1 n2 hb), .inr (.inr ⟨rfl, b2 g _ h'.n2 h'.hg, b2 o _ h'.n3 h'.ho, h2, h'.n1, h'.n2, h'.n3⟩)⟩
    · cases hy
  · rintro σ H' ⟨⟨y4', y5', rfl⟩, hp', b', ⟨z, h'⟩ | ⟨z, h'⟩ | ⟨z, h'⟩⟩
    · cases z
    · cases z
    · exact q H' y4' y5' ((Same.but2 o a s1).trans b') h'
end
end Rp
set_option Elab.async false
set_option linter.all false
set_option autoImplicit false
set_option maxRecDepth 100000
set_option maxHeartbeats 8000000
/-! _law_ended, whole -/
namespace Rp
open PySem PySem.Spec PyProof.Rows L2 Cm Ob Tx
theorem opNotInK {X : Cx} {K : PySem.W.Frag} (h : X.K = K) : OpR X (compareOp .NotIn) (rIn K true) := h ▸ op_notIn_seq
/-- a comprehension over whole numbers with a test that makes new objects -/
theorem lc_filtS {K : PySem.W.Frag} {a : Addr} {l : List Int} {i : Nat} {tt : TT} {vs : List Nat} {σ : L2.St} {H1 : Hp} {D : Addr} {Qd : Hp → Prop} {p : Int → Bool} (ha : SqL K H1 a (l.map V.int)) (hD : H1 D = none) (hz : l.length < sizeLine)
    (hw : ∀ x, wipe ((wipe σ vs).set i (some x)) vs = wipe σ vs) (hs : ∀ x, ((wipe σ vs).set i (some x))[i]? = some (some x))
    (ht : ∀ n ∈ l, ∀ H', Same H1 H' → ∀ R : Bool → Hp → Prop, (∀ H'', Same H' H'' → R (p n) H'') → tt ((wipe σ vs).set i (some (.int n))) H' R) (hd : ∀ H', Same H1 H' → H' D = some (.lst ((l.filter p).map V.int)) → Qd H') :
    ∃ W : Nat → Nat → Hp → Prop, (∃ m, W 0 m (upd H1 D (.lst []))) ∧ ∀ i' m H, W i' m H →
      ((Itl K a).stop i' H ∧ Qd H) ∨ ((Itl K a).go i' H ∧ ∃ Nx : Hp → Prop, (∀ H', Nx H' → ∃ m', m' < m ∧ W (i' + 1) m' H') ∧ ∀ x H', (Itl K a).yld i' H x H' → gName i x (wipe σ vs) H' fun σ2 H2 => wipe σ2 vs = wipe σ vs ∧ tt σ2 H2 fun b H3 =>
        if b = true then tVar i σ2 H3 fun y H4 => ∃ acc, H4 D = some (.lst acc) ∧ acc.length < sizeLine ∧ Nx (upd H4 D (.lst (acc ++ [y]))) else Nx H3) := by
  refine lc_list (K := K) (a := a) (xs := l.map V.int) (fun j H' => Same H1 H' ∧ H' D = some (.lst (((l.take j).filter p).map V.int))) ⟨same_new hD, upd_same⟩ (fun j H' _ h => h.1.seq ha) ?_ ?_
  · rintro j x H' hx ⟨sm, hDl⟩
    rw [List.getElem?_map] at hx
    cases en : l[j]? with
    | none =>
      rw [en] at hx
      cases hx
    | some n =>
    rw [en] at hx
    obtain rfl : V.int n = x := Option.some.inj hx
    refine ⟨hw _, ht n (List.mem_of_getElem? en) H' sm _ fun H'' s2 => ?_⟩
    have hlen : (((l.take j).filter p).map V.int).length < sizeLine := by
      rw [List.length_map]
      refine Nat.lt_of_le_of_lt (List.length_filter_le _ _) (Nat.lt_of_le_of_lt ?_ hz)
      rw [List.length_take]
      exact Nat.min_le_right _ _
    by_cases e : p n = true
    · rw [if_pos e]
      refine ⟨_, hs _, _, s2 _ _ hDl, hlen, same_mut hD (sm.trans s2), ?_⟩
      rw [upd_same, take_snoc en, filter_snoc, if_pos e, List.map_append]
      rfl
    · rw [if_neg e]
      refine ⟨sm.trans s2, ?_⟩
      rw [s2 _ _ hDl, take_snoc en, filter_snoc, if_neg e]
  · rintro H' ⟨sm, hDl⟩
    rw [List.length_map, List.take_of_length_le (Nat.le_refl _)] at hDl
    exact hd H' sm hDl
theorem inV_has (n : Int) (gr : Int → Option Int) : ∀ l : List Int, inV (.int n) (l.map fun k => oi (gr k)) = hasR l gr n
  | [] => rfl
  | k :: l => by
    have ih := inV_has n gr l
    unfold inV hasR at ih ⊢
    rw [List.map_cons, List.any_cons, List.any_cons, ih]
    congr 1
    cases e : gr k with
    | none => rfl
    | some m =>
      show (m == n) = decide (some m = some n)
      by_cases h : m = n
      · subst h
        simp
      · rw [decide_eq_false (fun z => h (Option.some.inj z))]
        simpa using h
theorem flat_oi (gr : Int → Option Int) (l : List Int) : (l.map fun k => oi (gr k)).all flatV = true := by
  rw [List.all_eq_true]
  intro x hx
  obtain ⟨k, _, rfl⟩ := List.mem_map.mp hx
  cases gr k <;> rfl
theorem map_snd_dk (l : List Int) (f : Int → V) : (dk l f).map (·.2) = l.map f := by
  unfold dk
  rw [List.map_map]
  rfl
def endL (kn : List Int) (gr : Int → Option Int) : Option Int → List Int
  | none => []
  | some l => if hasR kn gr l = true then [] else [l]
def spEnded : Sp := fun vs H Q _ => ∃ g o a M v x, vs = [.ref g, .ref o, .ref a] ∧ LdAt H g o a M v ∧ M ≤ 10 ∧ v.gm.length ≤ 60 ∧ v.gm.Nodup ∧ (∀ l ∈ v.gm, hasR (rng M) v.gr l = false → x = some l) ∧ (∀ l, x = some l → l ∈ v.gm ∧ v.ms l ≠ some l) ∧
  ∀ H', But2 o a H H' → LdAt H' g o a M (v.end1 (rng M) x) → Q .non H'
section
variable {P : Program} {w : World} {K : PySem.W.Frag} {mg : Str → Option Value} {base : Heap} {f : Addr} {fd : FuncData} {k : Nat}
theorem ok_ended (F : Fun K "_law_ended" "_law_ended" sEnded f fd) (B' : Bi mg) (hL : mg "list" = none) : FnOk P w K mg base CX0 (k + 2) f fd ["_law_groups", "_law_over", "_law_after"] spEnded := by
  refine F.ok scEn (fun vs H Q E h => ?_) (fun cdv A outer s H vs Q E hr h => ?_)
  · obtain ⟨g, o, a, M, v, x, rfl, _⟩ := h
    rfl
  · obtain ⟨g, o, a, M, v, x, rfl, h, hM, hz, nd, hx, hx2, q⟩ := h
    have hr1 : Room 1 (XN P w K mg base f cdv A outer s H E).A := Room.mono (show Room (k + 1) (XN P w K mg base f cdv A outer s H E).A from hr) (by omega)
    have hu := units1 hr1
    obtain ⟨t, ht, hq⟩ := hMid (P := P) (w := w) (K := K) (mg := mg) (base := base) (f := f) (cdv := cdv) (A := A) (outer := outer) (s := s) (H0 := H) (E := E) hr1
    refine ⟨_, pss_one (ps_for PassesOwn.never rfl (pi_list (pe_lc (own := [("_law_one", 5)]) (g := gName 5) (tt := tTest (tOp (rIn K true) (tVar 5) (LvX.tListVals (tVar 0)))) (te := tVar 5) (by rfl) scEn.nd (pi_list (pe_callB (call_sortedDI rfl) (by rfl) B'.sorted (by decide +kernel) (pa_cons (pv 1) pa_nil))) (blkOk_by (own := [("_law_one", 5)]) (N := nEn) (sc := defScope sEnded) (by decide +kernel)) (fun _ _ _ _ _ => pg_name (i := 5) scEn.nd rfl (Or.inl rfl)) (fun _ _ _ _ _ => pts_one (pt_cmpR (opNotInK (K := K) rfl) (pv 5) (LvX.pe_listVals (by rfl) (pv 0) (by rfl) hL (by decide +kernel)) (by rfl))) (fun _ _ _ _ _ => pv 5)))
      (pg_name (i := 3) scEn.nd rfl (Or.inr rfl)) (pss_cons ht (pss_one (ps_expr (pe_dpop1 (pv 1) (pv 3) ⟨rfl, rfl, rfl, rfl⟩))))), ?_⟩
    refine ⟨_, rfl, o, _, v.gm, rfl, .inl h.ho, keys_dk _ _, by omega, fun ys p hy1 hy2 hp => ?_⟩
    have s1 := same_new (o := HO.lst (ys.map V.int)) hp
    have hp1 : upd H p (.lst (ys.map V.int)) p = some (.lst (ys.map V.int)) := upd_same
    generalize hH1 : upd H p (.lst (ys.map V.int)) = H1 at s1 hp1 ⊢
    have h1 := h.same s1
    have yl : ys.length ≤ 60 := by rw [hy1.length_eq]; exact hz
    refine ⟨p, rfl, ⟨_, SqL.of hp1⟩, fun D hD => lc_filtS (p := fun n => !hasR (rng M) v.gr n) (SqL.of hp1) hD (sz5 (by omega)) (fun _ => rfl) (fun _ => rfl) (fun n hn H' sm R r => ?_) (fun H2 s2 hD2 => ?_)⟩
    · refine ⟨_, rfl, _, rfl, g, _, rfl, (h1.same sm).hg, fun l hl => ?_⟩
      rw [map_snd_dk]
      have s3 := same_new (o := HO.lst ((rng M).map fun k => oi (v.gr k))) hl
      refine ⟨l, _, rfl, .inl (SqL.of upd_same), rfl, flat_oi _ _, _, rfl, ?_⟩
      rw [if_pos rfl, inV_has]
      exact r _ s3
    · have h2 := h1.same s2
      have ey : (ys.filter fun n => !hasR (rng M) v.gr n) = endL (rng M) v.gr x := by
        unfold endL
        cases x with
        | none =>
          refine List.filter_eq_nil_iff.mpr fun n hn z => ?_
          have := hx n (hy1.mem_iff.mp hn) (by simpa using z)
          cases this
        | some l =>
          dsimp only
          by_cases e : hasR (rng M) v.gr l = true
          · rw [if_pos e]
            refine List.filter_eq_nil_iff.mpr fun n hn z => ?_
            have z : hasR (rng M) v.gr n = false := by simpa using z
            have := hx n (hy1.mem_iff.mp hn) z
            cases this
            rw [e] at z
            cases z
          · rw [if_neg e]
            refine filt_one (hy1.nodup_iff.mpr nd) (fun n hn => ⟨fun z => ?_, fun z => ?_⟩) (hy1.mem_iff.mpr (hx2 l rfl).1)
            · have := hx n (hy1.mem_iff.mp hn) (by simpa using z)
              exact (Option.some.inj this).symm
            · rw [z]
              simpa using e
      rw [ey] at hD2
      unfold endL at hD2
      have hDn : ∀ b u, H b = some u → b ≠ D := fun b u hb => ne_of_none (s1 _ _ hb) hD
      have hog : o ≠ D := hDn _ _ h.ho
      have hag : a ≠ D := hDn _ _ h.ha
      cases ex : x with
      | none =>
        rw [ex] at hD2 q
        refine ⟨D, rfl, ⟨_, SqL.of hD2⟩, for_list (K := K) (a := D) (xs := []) (fun i σ H' => H' = H2) rfl (fun i σ H' _ z => by rw [z]; exact SqL.of hD2) (fun i y σ H' hy => by cases hy) fun σ H' z => ?_⟩
        rw [z]
        exact q H2 (Same.but2 o a (s1.trans s2)) h2
      | some l =>
        rw [ex] at hD2 q
        obtain ⟨hl, hs⟩ := hx2 l ex
        by_cases e : hasR (rng M) v.gr l = true
        · have ee : v.end1 (rng M) (some l) = v := by
            unfold Vw.end1
            dsimp only
            rw [if_pos e]
          rw [ee] at q
          dsimp only at hD2
          rw [if_pos e] at hD2
          refine ⟨D, rfl, ⟨_, SqL.of hD2⟩, for_list (K := K) (a := D) (xs := []) (fun i σ H' => H' = H2) rfl (fun i σ H' _ z => by rw [z]; exact SqL.of hD2) (fun i y σ H' hy => by cases hy) fun σ H' z => ?_⟩
          rw [z]
          exact q H2 (Same.but2 o a (s1.trans s2)) h2
        · have ee : v.end1 (rng M) (some l) = v.ended l := by
            unfold Vw.end1
            dsimp only
            rw [if_neg e]
          rw [ee] at q
          dsimp only at hD2
          rw [if_neg e] at hD2
          refine ⟨D, rfl, ⟨_, SqL.of hD2⟩, for_list (K := K) (a := D) (xs := [V.int l]) (fun i σ H' => H' D = some (.lst [.int l]) ∧ ((i = 0 ∧ σ = [some (.ref g), some (.ref o), some (.ref a), none, none, none] ∧ H' = H2) ∨ (i = 1 ∧ But2 o a H2 H' ∧ LdAt H' g o a M (v.ended l)))) ⟨hD2, .inl ⟨rfl, rfl, rfl⟩⟩ (fun i σ H' _ z => SqL.of z.1) ?_ ?_⟩
          · rintro i y σ H' hy ⟨hD', ⟨rfl, rfl, rfl⟩ | ⟨rfl, _⟩⟩
            · obtain rfl := Option.some.inj hy
              refine hq _ H' g o a M v l none none h2 hM hz hl hs fun H3 y4 y5 b3 h3 => ?_
              refine ⟨_, rfl, o, rfl, .inl ⟨_, .inl h3.ho⟩, _, rfl, _, Sum.inl l, _, h3.ho, rfl, val_dk (f := fun j => oi ((v.repl l).ms j)) hl, ?_⟩
              refine ⟨by rw [upd_ne (Ne.symm hog)]; exact b3 _ _ (Ne.symm hog) (Ne.symm hag) hD', .inr ⟨rfl, fun b u n1 n2 hb => by rw [upd_ne n1]; exact b3 b u n1 n2 hb, by rw [upd_ne h3.n1]; exact h3.hg, ?_, by rw [upd_ne h3.n3.symm]; exact h3.ha, h3.n1, h3.n2, h3.n3⟩⟩
              rw [upd_same, drop_dk]
              rfl
            · cases hy
          · rintro σ H' ⟨hD', ⟨z, _⟩ | ⟨_, b3, h3⟩⟩
            · cases z
            · exact q H' ((Same.but2 o a (s1.trans s2)).trans b3) h3
end
end Rp
set_option Elab.async false
set_option linter.all false
set_option autoImplicit false
set_option maxRecDepth 100000
set_option maxHeartbeats 8000000
/-! _law_made -/
namespace Rp
open PySem PySem.Spec PyProof.Rows L2 Cm Ob Tx
abbrev nMa : List Str := ["_law_groups", "_law_over", "_law_after", "_law_k", "_law_kind", "_law_group"]
theorem scMa : FnScope nMa nMa (defScope sMade) := ⟨rfl, rfl, rfl, by decide +kernel, rfl, by decide +kernel, by decide +kernel⟩
def ButG (g o a : Addr) (H H' : Hp) : Prop := ∀ b u, b ≠ g → b ≠ o → b ≠ a → H b = some u → H' b = some u
theorem ButG.trans {g o a : Addr} {H H1 H2 : Hp} (x : ButG g o a H H1) (y : ButG g o a H1 H2) : ButG g o a H H2 := fun b u n1 n2 n3 h => y b u n1 n2 n3 (x b u n1 n2 n3 h)
theorem Same.butG {H H' : Hp} (g o a : Addr) (s : Same H H') : ButG g o a H H' := fun b u _ _ _ h => s b u h
/-- what the law's dicts keep -/
structure Lok (v : Vw) (M : Nat) : Prop where
  len : v.gm.length ≤ 58
  nd : v.gm.Nodup
  all : ∀ l ∈ v.gm, hasR (rng M) v.gr l = true
  gr : ∀ k ∈ rng M, ∀ l, v.gr k = some l → l ∈ v.gm
  fo : ∀ k ∈ rng M, ∀ l, v.fo k = some l → l ∈ v.gm
  ms : ∀ l ∈ v.gm, v.ms l ≠ some l
def spMade : Sp := fun vs H Q _ => ∃ g o a M v k kind L, vs = [.ref g, .ref o, .ref a, .int k, .str kind, .int L] ∧ LdAt H g o a M v ∧ M ≤ 10 ∧ k ∈ rng M ∧ Lok v M ∧ L ∉ v.gm ∧ (kind = "sharing" ∨ kind = "following" ∨ kind = "alone" ∨ kind = "unbindable") ∧
  ∀ H', ButG g o a H H' → LdAt H' g o a M (v.make (rng M) k kind L) → Q .non H'
theorem hasR_fu {kn : List Int} {gr : Int → Option Int} {k l : Int} {x : Option Int} (h : hasR kn gr l = true) (ne : gr k ≠ some l) : hasR kn (fu gr k x) l = true := by
  obtain ⟨j, hj, e⟩ := hasR_iff.mp h
  refine hasR_iff.mpr ⟨j, hj, ?_⟩
  rw [fu_ne (fun z => ne (by rw [← z]; exact e))]
  exact e
section
variable {P : Program} {w : World} {K : PySem.W.Frag} {mg : Str → Option Value} {base : Heap} {f : Addr} {fd : FuncData} {k : Nat}
/-- two dicts of the law changed at k -/
theorem LdAt.set2 {H : Hp} {g o a : Addr} {M : Nat} {v : Vw} {k : Int} {x y : Option Int} {u1 u2 : HO} (h : LdAt H g o a M v) (hk : k ∈ rng M) (e1 : u1 = .dK (putK (dk (rng M) fun j => oi (v.gr j)) (Sum.inl k : Key) (oi x))) (e2 : u2 = .dK (putK (dk (rng M) fun j => oi (v.fo j)) (Sum.inl k : Key) (oi y))) :
    LdAt (upd (upd H g u1) a u2) g o a M ⟨fu v.gr k x, fu v.fo k y, v.gm, v.ms⟩ ∧ LdAt (upd (upd H a u2) g u1) g o a M ⟨fu v.gr k x, fu v.fo k y, v.gm, v.ms⟩ := by
  have q1 : u1 = .dK (dk (rng M) fun j => oi (fu v.gr k x j)) := by rw [e1, put_dk hk, fu_map (F := oi)]
  have q2 : u2 = .dK (dk (rng M) fun j => oi (fu v.fo k y j)) := by rw [e2, put_dk hk, fu_map (F := oi)]
  refine ⟨⟨?_, ?_, ?_, h.n1, h.n2, h.n3⟩, ⟨?_, ?_, ?_, h.n1, h.n2, h.n3⟩⟩
  · rw [upd_ne h.n2, upd_same, q1]
  · rw [upd_ne h.n3, upd_ne h.n1.symm]
    exact h.ho
  · rw [upd_same, q2]
  · rw [upd_same, q1]
  · rw [upd_ne h.n1.symm, upd_ne h.n3]
    exact h.ho
  · rw [upd_ne h.n2.symm, upd_same, q2]
theorem ok_made (F : Fun K "_law_made" "_law_made" sMade f fd) (En : Cl P w K mg base CX0 2 "_law_ended" ["_law_groups", "_law_over", "_law_after"] spEnded) : FnOk P w K mg base CX0 (k + 3) f fd nMa spMade := by
  refine F.ok scMa (fun vs H Q E h => ?_) (fun cdv A outer s H vs Q E hr h => ?_)
  · obtain ⟨g, o, a, M, v, k, kind, L, rfl, _⟩ := h
    rfl
  · obtain ⟨g, o, a, M, v, k, kind, L, rfl, h, hM, hk, ok, hL, hkind, q⟩ := h
    have hr2 : Room 2 (cxOf CX0 P w K mg base nMa "_law_made" (defScope sMade) f cdv A outer s H E).nox.A := hr.mono (by omega)
    have hu := units1 hr2
    refine ⟨_, pss_cons (ps_if (PW.pt (pw_and (pt_cmpR op_eq (pv 4) pe_str (nomark _)) (pw_and1 (pt_cmpR op_isN (pe_dget hu (pv 0) (pv 3) (fun _ _ => rfl)) pe_non (nomark _)))))
        (pss_cons (ps_dput hu (pv 1) (pv 5) (pe_dget hu (pv 2) (pv 3) (fun _ _ => rfl)) rfl)
          (pss_one (ps_asg (pe_tup (pa_cons (pv 5) (pa_cons pe_non pa_nil))) (pg_tup rfl (pgs_cons (pg_sub (pv 0) (pv 3) (set_dict hu)) (pgs_cons (pg_sub (pv 2) (pv 3) (set_dict hu)) pgs_nil))))))
        (pss_one (ps_if (PW.pt (pw_and (pt_cmpR op_eq (pv 4) pe_str (nomark _)) (pw_and1 (pt_cmpR op_notN (pe_dget hu (pv 0) (pv 3) (fun _ _ => rfl)) pe_non (nomark _)))))
          (pss_one (ps_asg (pe_tup (pa_cons (pe_dget hu (pv 0) (pv 3) (fun _ _ => rfl)) (pa_cons pe_non pa_nil))) (pg_tup rfl (pgs_cons (pg_sub (pv 2) (pv 3) (set_dict hu)) (pgs_cons (pg_sub (pv 0) (pv 3) (set_dict hu)) pgs_nil)))))
          (pss_one (ps_if (pt_cmpR (opInK (K := K) rfl) (pv 4) (pe_tup (pa_cons pe_str (pa_cons pe_str pa_nil))) (by rfl))
            (pss_one (ps_asg (pe_tup (pa_cons pe_non (pa_cons pe_non pa_nil))) (pg_tup rfl (pgs_cons (pg_sub (pv 0) (pv 3) (set_dict hu)) (pgs_cons (pg_sub (pv 2) (pv 3) (set_dict hu)) pgs_nil)))))
            pss_nil)))))
      (pss_one (ps_expr (pe_cl En hr (by omega) (by rfl) pass0 (pa_cons (pv 0) (pa_cons (pv 1) (pa_cons (pv 2) pa_nil)))))), ?_⟩
    have ds : ∀ {a b : Str}, a ≠ b → decide (V.str a = V.str b) = false := fun {a b} n => decide_eq_false fun h => n (V.str.inj h)
    have hgk : ∀ {H' : Hp}, LdAt H' g o a M v → DGet H' g (.int k) (some (oi (v.gr k))) := fun h' => dget_dk (f := fun j => oi (v.gr j)) h'.hg hk
    have hak : ∀ {H' : Hp}, LdAt H' g o a M v → DGet H' a (.int k) (some (oi (v.fo k))) := fun h' => dget_dk (f := fun j => oi (v.fo j)) h'.ha hk
    have rl : (rng M).length < sizeLine := sz5 (by rw [rng_len]; omega)
    -- nothing of the dicts has changed
    have same : ∀ H', Same H H' → v.make (rng M) k kind L = v → spEnded [.ref g, .ref o, .ref a] H' (fun _ H'' => Q .non H'') (fun _ _ _ => False) := fun H' s e => by
      rw [e] at q
      refine ⟨g, o, a, M, v, none, rfl, h.same s, hM, by have := ok.len; omega, ok.nd, fun l hl z => absurd ((ok.all l hl).symm.trans z) (by decide), ?_, fun H'' b h'' => q H'' (fun c u n1 n2 n3 hc => b c u n2 n3 (s c u hc)) h''⟩
      intro l z
      cases z
    -- two of the dicts have changed
    have two : ∀ H' (x y z : Option Int), ButG g o a H H' → LdAt H' g o a M ⟨fu v.gr k x, fu v.fo k y, v.gm, v.ms⟩ → (∀ l ∈ v.gm, v.gr k ≠ some l → z ≠ some l → True) → v.make (rng M) k kind L = Vw.end1 ⟨fu v.gr k x, fu v.fo k y, v.gm, v.ms⟩ (rng M) (v.gr k) → spEnded [.ref g, .ref o, .ref a] H' (fun _ H'' => Q .non H'') (fun _ _ _ => False) := fun H' x y z b h' _ e => by
      rw [e] at q
      refine ⟨g, o, a, M, _, v.gr k, rfl, h', hM, by show v.gm.length ≤ 60; have := ok.len; omega, ok.nd, fun l hl z => ?_, fun l z => ⟨ok.gr k hk l z, ok.ms l (ok.gr k hk l z)⟩, fun H'' b2 h'' => q H'' (b.trans fun c u _ n2 n3 hc => b2 c u n2 n3 hc) h''⟩
      refine Decidable.byContradiction fun ne => ?_
      have := hasR_fu (x := x) (ok.all l hl) ne
      rw [show (⟨fu v.gr k x, fu v.fo k y, v.gm, v.ms⟩ : Vw).gr = fu v.gr k x from rfl, this] at z
      cases z
    refine ⟨_, rfl, rfl, _, rfl, ?_⟩
    by_cases e1 : kind = "sharing"
    · subst e1
      refine iteT ⟨_, rfl, _, rfl, g, _, rfl, hgk h, rfl, _, rfl, ?_⟩
      have em : v.make (rng M) k "sharing" L = v.mkS k L := by
        unfold Vw.make
        rw [if_pos rfl]
      cases eg : v.gr k with
      | some l =>
        have ev : v.make (rng M) k "sharing" L = v := by
          rw [em]
          unfold Vw.mkS
          rw [eg]
        refine iteF ⟨_, rfl, rfl, _, rfl, iteF ?_⟩
        refine ⟨_, rfl, by show 2 ≤ sizeLine; decide, fun p hp => ⟨p, _, rfl, .inr (SqT.of upd_same), rfl, rfl, _, rfl, iteF ?_⟩⟩
        exact ⟨_, rfl, _, rfl, _, rfl, same _ (same_new hp) ev⟩
      | none =>
        have ev : v.make (rng M) k "sharing" L = ⟨fu v.gr k (some L), fu v.fo k none, v.gm ++ [L], fu v.ms L (v.fo k)⟩ := by
          rw [em]
          unfold Vw.mkS
          rw [eg]
        refine iteT ⟨_, rfl, _, rfl, a, _, rfl, hak h, _, rfl, _, rfl, o, _, rfl, DPut.k (k := (Sum.inl L : Key)) h.ho (sz5 (by rw [dk_len]; have := ok.len; omega)), ?_⟩
        have h1 : LdAt (upd H o (.dK (putK (dk v.gm fun l => oi (v.ms l)) (Sum.inl L : Key) (oi (v.fo k))))) g o a M ⟨v.gr, v.fo, v.gm ++ [L], fu v.ms L (v.fo k)⟩ := ⟨by rw [upd_ne h.n1]; exact h.hg, by rw [upd_same, put_dk_new hL, fu_map (F := oi)], by rw [upd_ne h.n3.symm]; exact h.ha, h.n1, h.n2, h.n3⟩
        have b1 : ButG g o a H (upd H o (.dK (putK (dk v.gm fun l => oi (v.ms l)) (Sum.inl L : Key) (oi (v.fo k))))) := fun c u _ n2 _ hc => by rw [upd_ne n2]; exact hc
        generalize hH1 : upd H o (.dK (putK (dk v.gm fun l => oi (v.ms l)) (Sum.inl L : Key) (oi (v.fo k)))) = H1 at h1 b1 ⊢
        refine ⟨_, rfl, by show 2 ≤ sizeLine; decide, fun p hp => ?_⟩
        have s2 := same_new (o := HO.tup [.int L, .non]) hp
        have h2 := h1.same s2
        have hp2 : upd H1 p (.tup [.int L, .non]) p = some (.tup [.int L, .non]) := upd_same
        generalize hH2 : upd H1 p (.tup [.int L, .non]) = H2 at s2 h2 hp2 ⊢
        refine ⟨p, _, rfl, SqT.of hp2, rfl, _, _, rfl, _, rfl, _, rfl, g, _, rfl, DPut.k (k := (Sum.inl k : Key)) h2.hg (by rw [dk_len]; exact rl), _, _, rfl, _, rfl, _, rfl, a, _, rfl, DPut.k (k := (Sum.inl k : Key)) (by rw [upd_ne h2.n2.symm]; exact h2.ha) (by rw [dk_len]; exact rl), rfl, ?_⟩
        have h3 := (h2.set2 (x := some L) (y := none) hk rfl rfl).1
        have b3 : ∀ u1 u2, ButG g o a H2 (upd (upd H2 g u1) a u2) := fun u1 u2 c u n1 n2 n3 hc => by
          rw [upd_ne n3, upd_ne n1]
          exact hc
        refine ⟨_, rfl, _, rfl, _, rfl, g, o, a, M, _, none, rfl, h3, hM, ?_, ?_, fun l hl z => ?_, ?_, fun H'' b h'' => ?_⟩
        · show (v.gm ++ [L]).length ≤ 60
          have := ok.len
          rw [List.length_append, List.length_singleton]
          omega
        · show (v.gm ++ [L]).Nodup
          exact List.nodup_append.mpr ⟨ok.nd, by simp, fun x hx y hy e => hL (by rw [← List.mem_singleton.mp hy, ← e]; exact hx)⟩
        · have tr : hasR (rng M) (fu v.gr k (some L)) l = true := ?_
          · exact absurd (tr.symm.trans z) (by decide)
          rcases List.mem_append.mp (show l ∈ v.gm ++ [L] from hl) with hl | hl
          · exact hasR_fu (ok.all l hl) (by rw [eg]; intro z; cases z)
          · rw [List.mem_singleton.mp hl]
            exact hasR_iff.mpr ⟨k, hk, fu_same⟩
        · intro l z
          cases z
        · rw [ev] at q
          exact q H'' ((b1.trans (Same.butG g o a s2)).trans ((b3 _ _).trans fun c u _ n2 n3 hc => b c u n2 n3 hc)) h''
    · rw [ds e1]
      refine iteF ⟨_, rfl, rfl, _, rfl, ?_⟩
      by_cases e2 : kind = "following"
      · subst e2
        have em : v.make (rng M) k "following" L = v.mkF (rng M) k := by
          unfold Vw.make
          rw [if_neg e1, if_pos rfl]
        refine iteT ⟨_, rfl, _, rfl, g, _, rfl, hgk h, rfl, _, rfl, ?_⟩
        cases eg : v.gr k with
        | none =>
          have ev : v.make (rng M) k "following" L = v := by
            rw [em]
            unfold Vw.mkF
            rw [eg]
          refine iteF ⟨_, rfl, by show 2 ≤ sizeLine; decide, fun p hp => ⟨p, _, rfl, .inr (SqT.of upd_same), rfl, rfl, _, rfl, iteF ?_⟩⟩
          exact ⟨_, rfl, _, rfl, _, rfl, same _ (same_new hp) ev⟩
        | some l =>
          have ev : v.make (rng M) k "following" L = Vw.end1 ⟨fu v.gr k none, fu v.fo k (some l), v.gm, v.ms⟩ (rng M) (v.gr k) := by
            rw [em, eg]
            unfold Vw.mkF
            rw [eg]
          refine iteT ⟨_, rfl, _, rfl, g, _, rfl, hgk h, by show 2 ≤ sizeLine; decide, fun p hp => ?_⟩
          rw [eg]
          have s2 := same_new (o := HO.tup [oi (some l), .non]) hp
          have h2 := h.same s2
          have hp2 : upd H p (.tup [oi (some l), .non]) p = some (.tup [oi (some l), .non]) := upd_same
          generalize hH2 : upd H p (.tup [oi (some l), .non]) = H2 at s2 h2 hp2 ⊢
          refine ⟨p, _, rfl, SqT.of hp2, rfl, _, _, rfl, _, rfl, _, rfl, a, _, rfl, DPut.k (k := (Sum.inl k : Key)) h2.ha (by rw [dk_len]; exact rl), _, _, rfl, _, rfl, _, rfl, g, _, rfl, DPut.k (k := (Sum.inl k : Key)) (by rw [upd_ne h2.n2]; exact h2.hg) (by rw [dk_len]; exact rl), rfl, ?_⟩
          have h3 := (h2.set2 (x := none) (y := some l) hk rfl rfl).2
          refine ⟨_, rfl, _, rfl, _, rfl, two _ none (some l) none ((Same.butG g o a s2).trans fun c u n1 n2 n3 hc => ?_) h3 (fun _ _ _ _ => trivial) ev⟩
          rw [upd_ne n1, upd_ne n3]
          exact hc
      · rw [ds e2]
        have em : v.make (rng M) k kind L = v.mkA (rng M) k := by
          unfold Vw.make
          rw [if_neg e1, if_neg e2]
        refine iteF ⟨_, rfl, by show 2 ≤ sizeLine; decide, fun p hp => ⟨p, _, rfl, .inr (SqT.of upd_same), rfl, rfl, _, rfl, ?_⟩⟩
        have s1 := same_new (o := HO.tup [.str "alone", .str "unbindable"]) hp
        have h1 := h.same s1
        generalize hH1 : upd H p (.tup [.str "alone", .str "unbindable"]) = H1 at s1 h1 ⊢
        have ein : inV (.str kind) [.str "alone", .str "unbindable"] = true := by
          rcases hkind with e | e | e | e
          · exact absurd e e1
          · exact absurd e e2
          · rw [e]
            decide
          · rw [e]
            decide
        rw [ein]
        refine iteT ⟨by show 2 ≤ sizeLine; decide, fun p2 hp2 => ?_⟩
        have s2 := same_new (o := HO.tup [V.non, .non]) hp2
        have h2 := h1.same s2
        have hp3 : upd H1 p2 (.tup [.non, .non]) p2 = some (.tup [.non, .non]) := upd_same
        generalize hH2 : upd H1 p2 (.tup [.non, .non]) = H2 at s2 h2 hp3 ⊢
        refine ⟨p2, _, rfl, SqT.of hp3, rfl, _, _, rfl, _, rfl, _, rfl, g, _, rfl, DPut.k (k := (Sum.inl k : Key)) h2.hg (by rw [dk_len]; exact rl), _, _, rfl, _, rfl, _, rfl, a, _, rfl, DPut.k (k := (Sum.inl k : Key)) (by rw [upd_ne h2.n2.symm]; exact h2.ha) (by rw [dk_len]; exact rl), rfl, ?_⟩
        have h3 := (h2.set2 (x := none) (y := none) hk rfl rfl).1
        refine ⟨_, rfl, _, rfl, _, rfl, two _ none none none ((Same.butG g o a (s1.trans s2)).trans fun c u n1 n2 n3 hc => ?_) h3 (fun _ _ _ _ => trivial) em⟩
        rw [upd_ne n3, upd_ne n1]
        exact hc
end
end Rp
set_option Elab.async false
set_option linter.all false
set_option autoImplicit false
set_option maxRecDepth 100000
set_option maxHeartbeats 4000000
/-! what the law is due and what the table tells: the same -/
namespace Rp
open PySem PySem.Spec PyProof.Rows L2 Cm Ob Tx
theorem mem_fil {v : Vw} {M : Nat} {l k : Int} : k ∈ (rng M).filter (fun j => decide (v.gr j = some l)) ↔ k ∈ rng M ∧ v.gr k = some l := by
  rw [List.mem_filter, decide_eq_true_eq]
theorem dueS_some (v : Vw) (M : Nat) (l : Int) : dueS v M (some l) = (rng M).filter fun j => decide (v.gr j = some l) := by
  unfold dueS
  refine List.filter_congr fun k _ => ?_
  unfold inG
  by_cases e : v.gr k = some l
  · rw [e]
    simp
  · rw [decide_eq_false e, Bool.and_false]
theorem dueS_none (v : Vw) (M : Nat) : dueS v M none = [] := by
  unfold dueS
  refine List.filter_eq_nil_iff.mpr fun k _ => ?_
  unfold inG
  cases v.gr k <;> simp
theorem dueX_mem {v : Vw} {M : Nat} (ok : Lok v M) (hm : ∀ l ∈ v.gm, ∀ k, v.ms l = some k → k ∈ v.gm) {k l : Int} (hk : k ∈ rng M) (h : dueX v k = some l) : l ∈ v.gm := by
  unfold dueX at h
  cases e : v.gr k with
  | none =>
    rw [e] at h
    exact ok.fo k hk l h
  | some g =>
    rw [e] at h
    exact hm g (ok.gr k hk g e) l h
theorem dueS_nil {v : Vw} {M : Nat} (ok : Lok v M) {x : Option Int} (hx : ∀ l, x = some l → l ∈ v.gm) : dueS v M x = [] ↔ x = none := by
  constructor
  · intro h
    cases x with
    | none => rfl
    | some l =>
      rw [dueS_some] at h
      obtain ⟨k, hk, e⟩ := hasR_iff.mp (ok.all l (hx l rfl))
      have := mem_fil.mpr ⟨hk, e⟩
      rw [h] at this
      cases this
  · intro h
    rw [h]
    exact dueS_none v M
section
variable {p : Int → Int} {v : Vw} {M j : Nat} {t : Tb}
theorem grp_due (R : Rv p (rng M) v t.vw) (ok : Lok v M) {k : Int} (hk : k ∈ rng M) : t.grp k = (dueX v k).map p := by
  unfold Tb.grp dueX
  have e1 := R.gr k hk
  have e1 : (t.mn k).gr = (v.gr k).map p := e1
  have e2 : (t.mn k).fo = (v.fo k).map p := R.fo k hk
  rw [e1]
  cases e : v.gr k with
  | none => exact e2
  | some l => exact R.ms l (ok.gr k hk l e)
theorem srt_due (W : W28 M j t) (R : Rv p (rng M) v t.vw) {l : Int} (hl : l ∈ v.gm) {ls : List Int} (h : Srt (t.me (p l)) ls) : ls = (rng M).filter fun j => decide (v.gr j = some l) := by
  have hg : p l ∈ t.gm := R.gm l hl
  have pm : (t.me (p l)).Perm ((rng M).filter fun j => decide (v.gr j = some l)) := by
    refine (List.perm_ext_iff_of_nodup (W.w.mn _) ((rng_nd M).filter _)).mpr fun k => ?_
    rw [W.w.me _ hg k, mem_fil, W.kn]
    refine and_congr_right fun hk => ?_
    have e1 : (t.mn k).gr = (v.gr k).map p := R.gr k hk
    rw [e1]
    exact R.some_iff (R.grm k hk) hl
  exact PySem.W.ksm_same (h.1.trans pm) h.2 (((rng_sorted M).imp fun h => Int.le_of_lt h).filter _)
theorem agreeP (W : W28 M j t) (R : Rv p (rng M) v t.vw) (ok : Lok v M) {k : Int} (hk : k ∈ rng M) {ls : List Int} (h : match (t.mn k).gr with | none => ls = [k] | some g => Srt (t.me g) ls) : ls = dueP v M k := by
  have e1 : (t.mn k).gr = (v.gr k).map p := R.gr k hk
  rw [e1] at h
  unfold dueP
  cases e : v.gr k with
  | none =>
    rw [e] at h
    exact h
  | some l =>
    rw [e] at h
    exact srt_due W R (ok.gr k hk l e) h
theorem agreeF (W : W28 M j t) (R : Rv p (rng M) v t.vw) (ok : Lok v M) {k : Int} (hk : k ∈ rng M) {ls : List Int} (h : match t.grp k with | none => ls = [] | some g => Srt (t.me g) ls) : ls = dueS v M (dueX v k) := by
  rw [grp_due R ok hk] at h
  cases e : dueX v k with
  | none =>
    rw [e] at h
    rw [dueS_none]
    exact h
  | some l =>
    rw [e] at h
    rw [dueS_some]
    exact srt_due W R (dueX_mem ok R.msm hk e) h
/-- the kind as the law has it, marks among them -/
def dueM (v : Vw) (M : Nat) (ml : List Int) (k : Int) : Str := if dueK v M k = "alone" ∧ k ∈ ml then "unbindable" else dueK v M k
theorem agreeK (W : W28 M j t) (R : Rv p (rng M) v t.vw) (ok : Lok v M) {ml : List Int} (hm : ∀ k ∈ rng M, (t.mn k).ma = decide (k ∈ ml)) {k : Int} (hk : k ∈ rng M) : t.kindOf k = dueM v M ml k := by
  have e1 : (t.mn k).gr = (v.gr k).map p := R.gr k hk
  have e2 : (t.mn k).fo = (v.fo k).map p := R.fo k hk
  have hn := dueS_nil ok (x := dueX v k) fun l h => dueX_mem ok R.msm hk h
  unfold dueM Tb.kindOf dueK
  rw [e1]
  cases e : v.gr k with
  | some l =>
    have ex : dueX v k = v.ms l := by
      unfold dueX
      rw [e]
    have e3 : t.ms (p l) = (v.ms l).map p := R.ms l (ok.gr k hk l e)
    rw [ex] at hn
    simp only [Option.map_some, e3, ex]
    cases em : v.ms l with
    | none =>
      rw [em] at hn
      simp only [Option.map_none, hn.mpr rfl, if_true]
      rw [if_neg (fun z => absurd z.1 (by decide))]
    | some m =>
      rw [em] at hn
      have hne : ¬ dueS v M (some m) = [] := fun z => by
        have := hn.mp z
        cases this
      simp only [Option.map_some, hne, if_false]
      rw [if_neg (fun z => absurd z.1 (by decide))]
  | none =>
    have ex : dueX v k = v.fo k := by
      unfold dueX
      rw [e]
    rw [ex] at hn
    simp only [Option.map_none, e2, ex]
    cases em : v.fo k with
    | some m =>
      rw [em] at hn
      have hne : ¬ dueS v M (some m) = [] := fun z => by
        have := hn.mp z
        cases this
      simp only [Option.map_some, hne, if_false]
      rw [if_neg (fun z => absurd z.1 (by decide))]
    | none =>
      rw [em] at hn
      simp only [Option.map_none, hn.mpr rfl, if_true, hm k hk]
      by_cases hk2 : k ∈ ml
      · rw [if_pos ⟨trivial, hk2⟩, decide_eq_true hk2]
      · rw [if_neg (fun z => hk2 z.2), decide_eq_false hk2]

end
end Rp
set_option Elab.async false
set_option linter.all false
set_option autoImplicit false
set_option maxRecDepth 100000
set_option maxHeartbeats 8000000
/-! _law_right -/
namespace Rp
open PySem PySem.Spec PyProof.Rows L2 Cm Ob Tx
abbrev nRi : List Str := ["_law_world", "_law_groups", "_law_over", "_law_after", "_law_marked", "_law_k", "_law_kind", "_law_peers", "_law_some"]
theorem scRi : FnScope nRi ["_law_world", "_law_groups", "_law_over", "_law_after", "_law_marked"] (defScope sRight) := ⟨rfl, rfl, rfl, by decide +kernel, rfl, by decide +kernel, by decide +kernel⟩
theorem eqv_ints : ∀ l : List Int, PyData.eqvAll (l.map PyData.int) (l.map PyData.int) = true
  | [] => rfl
  | a :: l => by
    show ((a == a) && PyData.eqvAll (l.map PyData.int) (l.map PyData.int)) = true
    rw [eqv_ints l]
    simp
def rowD (a : Str) (l m : List Int) : PyData := .tuple [.str a, .list (l.map .int), .list (m.map .int)]
theorem eqv_row (a : Str) (l m : List Int) : PyData.eqv (rowD a l m) (rowD a l m) = true := by
  show ((a == a) && (PyData.eqvAll (l.map .int) (l.map .int) && (PyData.eqvAll (m.map .int) (m.map .int) && true))) = true
  rw [eqv_ints l, eqv_ints m]
  simp
theorem shaped_row (a : Str) (l m : List Int) (h : PyData.canLay0 (.str a) = true) : SeqAt.shaped (rowD a l m) = true := by
  unfold SeqAt.shaped rowD
  have h1 := depth_ints l
  have h2 := depth_ints m
  rw [Bool.and_eq_true]
  refine ⟨?_, decide_eq_true ?_⟩
  · show (PyData.canLay0 (.str a) && (PyData.canLayAll0 (l.map .int) && (PyData.canLayAll0 (m.map .int) && true))) = true
    rw [h, canLay_ints l, canLay_ints m]
    rfl
  · simp only [PyData.depth, PyData.depthAll]
    omega
theorem dueM_ok (v : Vw) (M : Nat) (ml : List Int) (k : Int) : PyData.canLay0 (.str (dueM v M ml k)) = true := by
  have h1 : PyData.canLay0 (.str "alone") = true := by decide +kernel
  have h2 : PyData.canLay0 (.str "following") = true := by decide +kernel
  have h3 : PyData.canLay0 (.str "sharing") = true := by decide +kernel
  have h4 : PyData.canLay0 (.str "both") = true := by decide +kernel
  have h5 : PyData.canLay0 (.str "unbindable") = true := by decide +kernel
  have hk : PyData.canLay0 (.str (dueK v M k)) = true := by
    unfold dueK
    split
    · split <;> assumption
    · split <;> assumption
  unfold dueM
  split
  · exact h5
  · exact hk
def spRight (CW CT CM : Addr) : Sp := fun vs H Q _ => ∃ x dx fi l1 l2 ds d t rt g o a mk ml M j v p, vs = [.ref x, .ref g, .ref o, .ref a, .ref mk] ∧ WAt CW CT CM H x dx fi l1 l2 ds d t rt ∧ W28 M j t ∧ Rv p (rng M) v t.vw ∧ Lok v M ∧ M ≤ 10 ∧ LdAt H g o a M v ∧ H mk = some (set1 ml) ∧ g ≠ mk ∧ Out d t g ∧ (∀ k ∈ rng M, (t.mn k).ma = decide (k ∈ ml)) ∧ ∀ H', Same H H' → Q (.bl true) H'
section
variable {P : Program} {w : World} {K : PySem.W.Frag} {mg : Str → Option Value} {base : Heap} {f : Addr} {fd : FuncData} {k : Nat} {CW CT CM : Addr}
theorem WAt.lock {H : Hp} {x dx l1 l2 rt g : Addr} {fi : V} {ds : List V} {d : Ad} {t : Tb} {u : List (Key × V)} {u' : HO} (h : WAt CW CT CM H x dx fi l1 l2 ds d t rt) (hg : H g = some (.dK u)) (og : Out d t g) : WAt CW CT CM (upd H g u') x dx fi l1 l2 ds d t rt := by
  have n1 : x ≠ g := ne_of h.hx hg (by intro z; cases z)
  have n2 : l1 ≠ g := ne_of h.h1 hg (by intro z; cases z)
  have n3 : l2 ≠ g := ne_of h.h2 hg (by intro z; cases z)
  have n4 : rt ≠ g := ne_of h.fl.hr hg (by intro z; cases z)
  exact ⟨by rw [upd_ne n1]; exact h.hx, by rw [upd_ne n2]; exact h.h1, by rw [upd_ne n3]; exact h.h2, h.ta.updOut og, ⟨by rw [upd_ne n4]; exact h.fl.hr, h.fl.rv, h.fl.kp, h.fl.pe⟩, h.ne⟩
theorem ok_right (F : Fun K "_law_right" "_law_right" sRight f fd) (cW : Cn K CW woN) (Du : Cl P w K mg base CX0 1 "_law_due" ["_law_groups", "_law_over", "_law_after", "_law_k"] spDue) (To : MT P w K mg base 2 CW "told" ["self", "number"] (spTold CW CT CM)) (Pe : MT P w K mg base 2 CW "peers" ["self", "number"] (spPeers CW CT CM)) (Fo : MT P w K mg base 2 CW "followed" ["self", "number"] (spFollowed CW CT CM)) :
    FnOk P w K mg base CX0 (k + 3) f fd ["_law_world", "_law_groups", "_law_over", "_law_after", "_law_marked"] (spRight CW CT CM) := by
  obtain ⟨fT, fdT, mT, FT, bT⟩ := To
  obtain ⟨fP, fdP, mP, FP, bP⟩ := Pe
  obtain ⟨fF, fdF, mF, FF, bF⟩ := Fo
  refine F.ok scRi (fun vs H Q E h => ?_) (fun cdv A outer s H vs Q E hr h => ?_)
  · obtain ⟨x, dx, fi, l1, l2, ds, d, t, rt, g, o, a, mk, ml, M, j, v, p, rfl, _⟩ := h
    rfl
  · obtain ⟨x, dx, fi, l1, l2, ds, d, t, rt, g, o, a, mk, ml, M, j, v, p, rfl, W, w28, R, ok, hM, L, hmk, ngm, og, hma, q⟩ := h
    have hr2 : Room 2 (cxOf CX0 P w K mg base nRi "_law_right" (defScope sRight) f cdv A outer s H E).nox.A := hr.mono (by omega)
    have hu := units1 hr2
    refine ⟨_, pss_cons (ps_lock (ps_for PassesOwn.never rfl (pi_keys (pv 1)) (pg_name (i := 5) scRi.nd rfl (Or.inl rfl))
      (pss_cons (ps_asg (pe_cl Du hr (by omega) (by rfl) pass0 (pa_cons (pv 1) (pa_cons (pv 2) (pa_cons (pv 3) (pa_cons (pv 5) pa_nil))))) (pg_tup rfl (pgs_cons (pg_name (i := 6) scRi.nd rfl (Or.inl rfl)) (pgs_cons (pg_name (i := 7) scRi.nd rfl (Or.inl rfl)) (pgs_cons (pg_name (i := 8) scRi.nd rfl (Or.inl rfl)) pgs_nil)))))
      (C8.pss_cut (ps_if (PW.pt (pw_and (pt_cmpR op_eq (pv 6) pe_str (nomark _)) (pw_and1 (pt_cmp (pc_din hu (pv 5) (pv 4)))))) (pss_one (ps_set (i := 6) scRi.nd rfl (.inl rfl) pe_str)) pss_nil)
      (pss_one (ps_if (pt_cmpR (op_neD hr2.units) (pe_tup (pa_cons (pe_ix ix_tup (pe_meth (pv 0) cW.cl mT FT hr2 bT .nil pass0 (pa_cons (pv 5) pa_nil)) pe_int (fun _ _ => rfl)) (pa_cons (pe_meth (pv 0) cW.cl mP FP hr2 bP .nil pass0 (pa_cons (pv 5) pa_nil)) (pa_cons (pe_meth (pv 0) cW.cl mF FF hr2 bF .nil pass0 (pa_cons (pv 5) pa_nil)) pa_nil)))) (pe_tup (pa_cons (pv 6) (pa_cons (pv 7) (pa_cons (pv 8) pa_nil)))) (nomark _)) (pss_one (ps_ret pe_bl)) pss_nil))))))
      (pss_one (ps_ret pe_bl)), ?_⟩
    refine ⟨g, _, L.hg, trivial, fun od => ?_⟩
    have WL := W.lock (u' := .frz od (.dK (dk (rng M) fun k => oi (v.gr k)))) L.hg og
    have LR : LdR (upd H g (.frz od (.dK (dk (rng M) fun k => oi (v.gr k))))) g o a M v := ⟨.inr ⟨od, upd_same⟩, by rw [upd_ne L.n1.symm]; exact L.ho, by rw [upd_ne L.n2.symm]; exact L.ha⟩
    have hmL : upd H g (.frz od (.dK (dk (rng M) fun k => oi (v.gr k)))) mk = some (set1 ml) := by
      rw [upd_ne ngm.symm]
      exact hmk
    have hgL : upd H g (.frz od (.dK (dk (rng M) fun k => oi (v.gr k)))) g = some (.frz od (.dK (dk (rng M) fun k => oi (v.gr k)))) := upd_same
    refine ⟨_, rfl, g, od, rfl, .inl ⟨_, hgL, for_it walk_keys (fun i σ H' => (∃ y5 y6 y7 y8, σ = [some (.ref x), some (.ref g), some (.ref o), some (.ref a), some (.ref mk), y5, y6, y7, y8]) ∧ Same (upd H g (.frz od (.dK (dk (rng M) fun k => oi (v.gr k))))) H') ⟨⟨_, _, _, _, rfl⟩, fun _ _ z => z⟩ (fun i σ H' _ z => z.2 _ _ hgL) ?_ ?_⟩⟩
    · rintro i y σ H1 H1' hi ⟨⟨y5, y6, y7, y8, rfl⟩, sm⟩ ⟨rfl, kk, vv, hkv, rfl⟩
      have hi' : i < (rng M).length := by
        rw [dk_len] at hi
        exact hi
      have hn : (rng M)[i]? = some (rng M)[i] := List.getElem?_eq_getElem hi'
      generalize hnn : (rng M)[i] = n at hn
      have ek : kk = Sum.inl n := by
        unfold dk at hkv
        rw [List.getElem?_map, hn] at hkv
        exact (congrArg Prod.fst (Option.some.inj hkv)).symm
      subst ek
      have ln : n ∈ rng M := List.mem_of_getElem? hn
      have lkn : n ∈ t.kn := by
        rw [w28.kn]
        exact ln
      refine ⟨_, rfl, _, rfl, _, rfl, _, rfl, g, o, a, M, v, n, rfl, LR.same sm, hM, ln, ok.gr n ln, fun H2 T p1 p2 s2 hT hp1 hp2 => ?_⟩
      refine ⟨T, _, rfl, SqT.of hT, rfl, _, _, rfl, _, _, rfl, _, _, rfl, rfl, ?_⟩
      refine ⟨fun σ' H' => σ' = [some (.ref x), some (.ref g), some (.ref o), some (.ref a), some (.ref mk), some (.int n), some (.str (dueM v M ml n)), some (.ref p1), some (.ref p2)] ∧ H' = H2, ?_, ?_⟩
      · refine ⟨_, rfl, rfl, _, rfl, ?_⟩
        have hd : DGet H2 mk (.int n) (valV (dk ml fun _ => .bl true) (Sum.inl n : Key)) := DGet.k (k := (Sum.inl n : Key)) (s2 _ _ (sm _ _ hmL))
        by_cases e1 : dueK v M n = "alone"
        · rw [decide_eq_true (show V.str (dueK v M n) = V.str "alone" by rw [e1])]
          refine iteT ⟨_, rfl, _, rfl, mk, _, rfl, hd, _, rfl, ?_⟩
          by_cases e2 : n ∈ ml
          · rw [val_dk e2]
            refine iteT ⟨?_, rfl⟩
            show [_, _, _, _, _, _, some (V.str "unbindable"), _, _] = _
            unfold dueM
            rw [if_pos ⟨e1, e2⟩]
            rfl
          · rw [val_dk_no e2]
            refine iteF ⟨?_, rfl⟩
            unfold dueM
            rw [if_neg fun z => e2 z.2]
            rfl
        · rw [decide_eq_false (fun z : V.str (dueK v M n) = V.str "alone" => e1 (V.str.inj z))]
          refine iteF ⟨?_, rfl⟩
          unfold dueM
          rw [if_neg fun z => e1 z.1]
          rfl
      · rintro σ' H' ⟨rfl, rfl⟩
        have W2 := (WL.same sm).same s2
        have wf := w28.w.wf
        have few : Few t := fun g _ => w28.few hM g
        refine ⟨_, rfl, x, dx, _, rfl, W2.hx, rfl, _, rfl, x, dx, fi, l1, l2, ds, d, t, rt, n, rfl, W2, wf, lkn, fun q1 hq1 => ?_⟩
        have s3 := same_new (o := HO.tup [.int (t.mn n).sp, .str (t.mn n).tr, (t.mn n).rv, oi (t.mn n).pa, (t.mn n).pv, .str (t.kindOf n), .bl (t.mn n).lo]) hq1
        have W3 := W2.same s3
        refine ⟨q1, _, 5, .str (t.kindOf n), rfl, rfl, SqT.of upd_same, rfl, ?_⟩
        rw [agreeK w28 R ok hma ln] at s3 W3 ⊢
        generalize hH3 : upd H' q1 (.tup [.int (t.mn n).sp, .str (t.mn n).tr, (t.mn n).rv, oi (t.mn n).pa, (t.mn n).pv, .str (dueM v M ml n), .bl (t.mn n).lo]) = H3 at s3 W3 ⊢
        refine ⟨_, rfl, x, dx, _, rfl, W3.hx, rfl, _, rfl, x, dx, fi, l1, l2, ds, d, t, rt, n, rfl, W3, wf, few, lkn, fun q2 ls hq2 hls => ?_⟩
        have els := agreeP w28 R ok ln hls
        subst els
        have s4 := same_new (o := HO.lst ((dueP v M n).map V.int)) hq2
        have hq2' : upd H3 q2 (.lst ((dueP v M n).map V.int)) q2 = some (.lst ((dueP v M n).map V.int)) := upd_same
        have W4 := W3.same s4
        generalize hH4 : upd H3 q2 (.lst ((dueP v M n).map V.int)) = H4 at s4 W4 hq2' ⊢
        refine ⟨_, rfl, x, dx, _, rfl, W4.hx, rfl, _, rfl, x, dx, fi, l1, l2, ds, d, t, rt, n, rfl, W4, wf, few, lkn, fun q3 ls3 hq3 hls3 => ?_⟩
        have els3 := agreeF w28 R ok ln hls3
        subst els3
        have s5 := same_new (o := HO.lst ((dueS v M (dueX v n)).map V.int)) hq3
        have hq3' : upd H4 q3 (.lst ((dueS v M (dueX v n)).map V.int)) q3 = some (.lst ((dueS v M (dueX v n)).map V.int)) := upd_same
        generalize hH5 : upd H4 q3 (.lst ((dueS v M (dueX v n)).map V.int)) = H5 at s5 hq3' ⊢
        refine ⟨by show 3 ≤ sizeLine; decide, fun t1 ht1 => ?_⟩
        have s6 := same_new (o := HO.tup [.str (dueM v M ml n), .ref q2, .ref q3]) ht1
        have ht1' : upd H5 t1 (.tup [.str (dueM v M ml n), .ref q2, .ref q3]) t1 = some (.tup [.str (dueM v M ml n), .ref q2, .ref q3]) := upd_same
        generalize hH6 : upd H5 t1 (.tup [.str (dueM v M ml n), .ref q2, .ref q3]) = H6 at s6 ht1' ⊢
        refine ⟨_, rfl, _, rfl, _, rfl, by show 3 ≤ sizeLine; decide, fun t2 ht2 => ?_⟩
        have s7 := same_new (o := HO.tup [.str (dueM v M ml n), .ref p1, .ref p2]) ht2
        have s36 := s3.trans (s4.trans (s5.trans s6))
        refine ⟨rowD (dueM v M ml n) (dueP v M n) (dueS v M (dueX v n)), rowD (dueM v M ml n) (dueP v M n) (dueS v M (dueX v n)), .tup (SqT.of (s7 _ _ ht1')) (.cons (.str _) (.cons (dpl (s7 _ _ (s6 _ _ (s5 _ _ hq2')))) (.cons (dpl (s7 _ _ (s6 _ _ hq3'))) .nil))), .tup (SqT.of upd_same) (.cons (.str _) (.cons (dpl (s7 _ _ (s36 _ _ hp1))) (.cons (dpl (s7 _ _ (s36 _ _ hp2))) .nil))), shaped_row _ _ _ (dueM_ok v M ml n), shaped_row _ _ _ (dueM_ok v M ml n), _, rfl, ?_⟩
        rw [eqv_row]
        exact iteF ⟨⟨_, _, _, _, rfl⟩, sm.trans (s2.trans (s36.trans s7))⟩
    · rintro σ H1 ⟨⟨y5, y6, y7, y8, rfl⟩, sm⟩
      exact ⟨sm _ _ hgL, q _ (unlock L.hg sm)⟩
end
end Rp
set_option Elab.async false
set_option linter.all false
set_option autoImplicit false
set_option maxRecDepth 100000
set_option maxHeartbeats 8000000
/-! what stands between the law's steps -/
namespace Rp
open PySem PySem.Spec PyProof.Rows L2 Cm Ob Tx LamX
theorem ob_ntag {CT CM : Addr} {d : Ad} {t : Tb} (r : Role) (l : List V) : ob CT CM d t r ≠ .lst l := ob_nlst r l
section
variable {CW CT CM : Addr} {H H' : Hp} {x dx l1 l2 rt : Addr} {fi : V} {ds : List V} {d : Ad} {t : Tb} {T : List (Addr × Str)}
/-- some dicts that are not of the world have changed -/
theorem WAt.butL {L : List Addr} (h : WAt CW CT CM H x dx fi l1 l2 ds d t rt) (hL : ∀ b ∈ L, (∃ u, H b = some (.dK u)) ∧ Out d t b) (k : ∀ b o, b ∉ L → H b = some o → H' b = some o) : WAt CW CT CM H' x dx fi l1 l2 ds d t rt := by
  have nn : ∀ {b o}, H b = some o → (∀ u, o ≠ .dK u) → b ∉ L := fun {b o} hb n hm => by
    obtain ⟨⟨u, hu⟩, _⟩ := hL b hm
    rw [hu] at hb
    exact n u (Option.some.inj hb).symm
  exact ⟨k _ _ (nn h.hx (by intro u z; cases z)) h.hx, k _ _ (nn h.h1 (by intro u z; cases z)) h.h1, k _ _ (nn h.h2 (by intro u z; cases z)) h.h2, ⟨fun r l => k _ _ (fun z => (hL _ z).2 r l rfl) (h.ta.all r l), h.ta.inj⟩, ⟨k _ _ (nn h.fl.hr (by intro u z; cases z)) h.fl.hr, h.fl.rv, h.fl.kp, h.fl.pe⟩, h.ne⟩
theorem tabs_butL {L : List Addr} (tb : Tabs T H) (hL : ∀ b ∈ L, ∃ u, H b = some (.dK u)) (k : ∀ b o, b ∉ L → H b = some o → H' b = some o) : Tabs T H' := fun p hp => by
  obtain ⟨ps, a1, a2, a3⟩ := tb p hp
  have nn : ∀ {b o}, H b = some o → (∀ u, o ≠ .dK u) → b ∉ L := fun {b o} hb n hm => by
    obtain ⟨u, hu⟩ := hL b hm
    rw [hu] at hb
    exact n u (Option.some.inj hb).symm
  refine ⟨ps, k _ _ (nn a1 (by intro u z; cases z)) a1, a2, fun pos cv hc => ?_⟩
  obtain ⟨c, e, hcc⟩ := a3 pos cv hc
  exact ⟨c, e, k _ _ (nn hcc (fun u z => dK_ncode _ _ z.symm)) hcc⟩
/-- the draws' list has changed -/
theorem WAt.but {l : Addr} {st : List V} (h : WAt CW CT CM H x dx fi l1 l2 ds d t rt) (hl : H l = some (.lst st)) (n1 : l ≠ l1) (n2 : l ≠ l2) (k : But l H H') : WAt CW CT CM H' x dx fi l1 l2 ds d t rt := by
  have nn : ∀ {b o}, H b = some o → (∀ u, o ≠ .lst u) → b ≠ l := fun {b o} hb n hm => by
    rw [hm, hl] at hb
    exact n st (Option.some.inj hb).symm
  exact ⟨k _ _ (nn h.hx (by intro u z; cases z)) h.hx, k _ _ n1.symm h.h1, k _ _ n2.symm h.h2, ⟨fun r l => k _ _ (nn (h.ta.all r l) (fun u => ob_nlst r u)) (h.ta.all r l), h.ta.inj⟩, ⟨k _ _ (nn h.fl.hr (by intro u z; cases z)) h.fl.hr, h.fl.rv, h.fl.kp, h.fl.pe⟩, h.ne⟩
theorem tabs_but {l : Addr} {st : List V} (tb : Tabs T H) (hl : H l = some (.lst st)) (k : But l H H') : Tabs T H' := fun p hp => by
  obtain ⟨ps, a1, a2, a3⟩ := tb p hp
  have nn : ∀ {b o}, H b = some o → (∀ u, o ≠ .lst u) → b ≠ l := fun {b o} hb n hm => by
    rw [hm, hl] at hb
    exact n st (Option.some.inj hb).symm
  refine ⟨ps, k _ _ (nn a1 (by intro u z; cases z)) a1, a2, fun pos cv hc => ?_⟩
  obtain ⟨c, e, hcc⟩ := a3 pos cv hc
  exact ⟨c, e, k _ _ (nn hcc (fun u z => lst_ncode _ _ z.symm)) hcc⟩
end
structure Fx (KL : List (Addr × List V)) (H0 : Hp) (T : List (Addr × Str)) (CW CT CM : Addr) (H : Hp) (x g o a mk l : Addr) (Mt M q : Nat) (v : Vw) (t : Tb) (ml : List Int) : Prop where
  ex : ∃ dx fi l1 l2 ds d rt, WAt CW CT CM H x dx fi l1 l2 ds d t rt ∧ (Out d t g ∧ Out d t o ∧ Out d t a ∧ Out d t mk) ∧ l ≠ l1 ∧ l ≠ l2 ∧ H0 l1 = none ∧ ds.length ≤ q ∧ ∀ e ∈ KL, e.1 ≠ l1
  tb : Tabs T H
  st : ∃ st, H l = some (.lst st) ∧ StOk st
  w28 : W28 Mt q t
  L : LdAt H g o a M v
  hm : H mk = some (set1 ml)
  ng : g ≠ mk
  no : o ≠ mk
  na : a ≠ mk
  e0 : ExtN H0 H
  nx : H0 x = none
  nl : H0 l = none
  n4 : H0 g = none ∧ H0 o = none ∧ H0 a = none ∧ H0 mk = none
  nd : v.gm.Nodup
  gl : v.gm.length ≤ q
  mq : ml.length ≤ q
  kl : ∀ e ∈ KL, H e.1 = some (.lst e.2) ∧ e.1 ≠ l
section
variable {KL : List (Addr × List V)} {H0 H H' : Hp} {T : List (Addr × Str)} {CW CT CM x g o a mk l : Addr} {Mt M q : Nat} {v : Vw} {t : Tb} {ml : List Int}
theorem Fx.same (h : Fx KL H0 T CW CT CM H x g o a mk l Mt M q v t ml) (s : Same H H') : Fx KL H0 T CW CT CM H' x g o a mk l Mt M q v t ml := by
  obtain ⟨dx, fi, l1, l2, ds, d, rt, W, O, n1, n2, n3, dl⟩ := h.ex
  obtain ⟨st, hl, ok⟩ := h.st
  exact { h with ex := ⟨dx, fi, l1, l2, ds, d, rt, W.same s, O, n1, n2, n3, dl⟩, tb := h.tb.ext s, st := ⟨st, s _ _ hl, ok⟩, L := h.L.same s, hm := s _ _ h.hm, e0 := fun b o hb n => s _ _ (h.e0 b o hb n), kl := fun e he => ⟨s _ _ (h.kl e he).1, (h.kl e he).2⟩ }
theorem Fx.but (h : Fx KL H0 T CW CT CM H x g o a mk l Mt M q v t ml) {st' : List V} (k : But l H H') (hl' : H' l = some (.lst st')) (ok' : StOk st') : Fx KL H0 T CW CT CM H' x g o a mk l Mt M q v t ml := by
  obtain ⟨dx, fi, l1, l2, ds, d, rt, W, O, n1, n2, n3, dl⟩ := h.ex
  obtain ⟨st, hl, ok⟩ := h.st
  have nn : ∀ {b o}, H b = some o → (∀ u, o ≠ .lst u) → b ≠ l := fun {b o} hb n hm => by
    rw [hm, hl] at hb
    exact n st (Option.some.inj hb).symm
  exact { h with ex := ⟨dx, fi, l1, l2, ds, d, rt, W.but hl n1 n2 k, O, n1, n2, n3, dl⟩, tb := tabs_but h.tb hl k, st := ⟨st', hl', ok'⟩, L := ⟨k _ _ (nn h.L.hg (by intro u z; cases z)) h.L.hg, k _ _ (nn h.L.ho (by intro u z; cases z)) h.L.ho, k _ _ (nn h.L.ha (by intro u z; cases z)) h.L.ha, h.L.n1, h.L.n2, h.L.n3⟩, hm := k _ _ (nn h.hm (by intro u z; cases z)) h.hm, e0 := fun b o hb n => k _ _ (fun z => by rw [z, h.nl] at hb; cases hb) (h.e0 b o hb n), kl := fun e he => ⟨k _ _ (h.kl e he).2 (h.kl e he).1, (h.kl e he).2⟩ }
theorem Fx.laws (h : Fx KL H0 T CW CT CM H x g o a mk l Mt M q v t ml) {v' : Vw} {M' : Nat} (k : ButG g o a H H') (L' : LdAt H' g o a M' v') (nd : v'.gm.Nodup) (gl : v'.gm.length ≤ q) : Fx KL H0 T CW CT CM H' x g o a mk l Mt M' q v' t ml := by
  obtain ⟨dx, fi, l1, l2, ds, d, rt, W, ⟨O1, O2, O3, O4⟩, n1, n2, n3, dl⟩ := h.ex
  obtain ⟨st, hl, ok⟩ := h.st
  have k' : ∀ b u, b ∉ [g, o, a] → H b = some u → H' b = some u := fun b u n hb => k b u (fun z => n (by simp [z])) (fun z => n (by simp [z])) (fun z => n (by simp [z])) hb
  have dL : ∀ b ∈ [g, o, a], ∃ u, H b = some (.dK u) := fun b hb => by
    simp only [List.mem_cons, List.not_mem_nil, or_false] at hb
    rcases hb with rfl | rfl | rfl
    · exact ⟨_, h.L.hg⟩
    · exact ⟨_, h.L.ho⟩
    · exact ⟨_, h.L.ha⟩
  have oL : ∀ b ∈ [g, o, a], Out d t b := fun b hb => by
    simp only [List.mem_cons, List.not_mem_nil, or_false] at hb
    rcases hb with rfl | rfl | rfl
    · exact O1
    · exact O2
    · exact O3
  have nlL : l ∉ [g, o, a] := fun z => by
    obtain ⟨u, hu⟩ := dL l z
    rw [hl] at hu
    cases hu
  exact { h with ex := ⟨dx, fi, l1, l2, ds, d, rt, W.butL (fun b hb => ⟨dL b hb, oL b hb⟩) k', ⟨O1, O2, O3, O4⟩, n1, n2, n3, dl⟩, tb := tabs_butL h.tb dL k', st := ⟨st, k' _ _ nlL hl, ok⟩, L := L', hm := k _ _ h.ng.symm h.no.symm h.na.symm h.hm, e0 := fun b u hb n => k b u (fun z => by rw [z, h.n4.1] at hb; cases hb) (fun z => by rw [z, h.n4.2.1] at hb; cases hb) (fun z => by rw [z, h.n4.2.2.1] at hb; cases hb) (h.e0 b u hb n), nd := nd, gl := gl, kl := fun e he => ⟨k' _ _ (fun z => by obtain ⟨u, hu⟩ := dL _ z; rw [(h.kl e he).1] at hu; cases hu) (h.kl e he).1, (h.kl e he).2⟩ }
theorem Fx.mark (h : Fx KL H0 T CW CT CM H x g o a mk l Mt M q v t ml) {ml' : List Int} (hq : ml'.length ≤ q) : Fx KL H0 T CW CT CM (upd H mk (set1 ml')) x g o a mk l Mt M q v t ml' := by
  obtain ⟨dx, fi, l1, l2, ds, d, rt, W, ⟨O1, O2, O3, O4⟩, n1, n2, n3, dl⟩ := h.ex
  obtain ⟨st, hl, ok⟩ := h.st
  have k' : ∀ b u, b ∉ [mk] → H b = some u → upd H mk (set1 ml') b = some u := fun b u n hb => by
    rw [upd_ne (fun z => n (by simp [z]))]
    exact hb
  have dL : ∀ b ∈ [mk], ∃ u, H b = some (.dK u) := fun b hb => by
    rw [List.mem_singleton.mp hb]
    exact ⟨_, h.hm⟩
  have oL : ∀ b ∈ [mk], Out d t b := fun b hb => by
    rw [List.mem_singleton.mp hb]
    exact O4
  have nlL : l ∉ [mk] := fun z => by
    obtain ⟨u, hu⟩ := dL l z
    rw [hl] at hu
    cases hu
  exact { h with ex := ⟨dx, fi, l1, l2, ds, d, rt, W.butL (fun b hb => ⟨dL b hb, oL b hb⟩) k', ⟨O1, O2, O3, O4⟩, n1, n2, n3, dl⟩, tb := tabs_butL h.tb dL k', st := ⟨st, k' _ _ nlL hl, ok⟩, L := ⟨by rw [upd_ne h.ng]; exact h.L.hg, by rw [upd_ne h.no]; exact h.L.ho, by rw [upd_ne h.na]; exact h.L.ha, h.L.n1, h.L.n2, h.L.n3⟩, hm := upd_same, e0 := fun b u hb n => by rw [upd_ne (fun z => by rw [z, h.n4.2.2.2] at hb; cases hb)]; exact h.e0 b u hb n, mq := hq, kl := fun e he => ⟨k' _ _ (fun z => by obtain ⟨u, hu⟩ := dL _ z; rw [(h.kl e he).1] at hu; cases hu) (h.kl e he).1, (h.kl e he).2⟩ }
/-- a new list is kept -/
theorem Fx.keep (h : Fx KL H0 T CW CT CM H x g o a mk l Mt M q v t ml) {p : Addr} {vs : List V} (hp : H p = none) : Fx ((p, vs) :: KL) H0 T CW CT CM (upd H p (.lst vs)) x g o a mk l Mt M q v t ml := by
  have h' := h.same (same_new (o := HO.lst vs) hp)
  obtain ⟨dx, fi, l1, l2, ds, d, rt, W, O, n1, n2, n3, dl⟩ := h.ex
  obtain ⟨st, hl, ok⟩ := h.st
  have k1 : ∀ e ∈ (p, vs) :: KL, e.1 ≠ l1 := fun e he => by
    rcases List.mem_cons.mp he with z | z
    · rw [z]
      exact (ne_of_none W.h1 hp).symm
    · exact dl.2 e z
  have k2 : ∀ e ∈ (p, vs) :: KL, upd H p (.lst vs) e.1 = some (.lst e.2) ∧ e.1 ≠ l := fun e he => by
    rcases List.mem_cons.mp he with z | z
    · rw [z]
      exact ⟨upd_same, (ne_of_none hl hp).symm⟩
    · exact h'.kl e z
  exact { h' with ex := ⟨dx, fi, l1, l2, ds, d, rt, W.same (same_new hp), O, n1, n2, n3, dl.1, k1⟩, kl := k2 }
theorem Fx.drop {e : Addr × List V} (h : Fx (e :: KL) H0 T CW CT CM H x g o a mk l Mt M q v t ml) : Fx KL H0 T CW CT CM H x g o a mk l Mt M q v t ml := by
  obtain ⟨dx, fi, l1, l2, ds, d, rt, W, O, n1, n2, n3, dl⟩ := h.ex
  exact { h with ex := ⟨dx, fi, l1, l2, ds, d, rt, W, O, n1, n2, n3, dl.1, fun e he => dl.2 e (List.mem_cons_of_mem _ he)⟩, kl := fun e he => h.kl e (List.mem_cons_of_mem _ he) }
def kinds4 : List Str := ["sharing", "following", "alone", "unbindable"]
theorem deed_make {n : Int} {kind : Str} (hk : kind ∈ kinds4) : deedB (.tup [.str "make", .int n, .str "/", .str kind]) = true := by
  have : ∀ kind ∈ kinds4, entryB (.str kind) "kind" = true := by decide +kernel
  have h1 : formOf "make" = some (["space", "path", "kind"] : List Str) := by decide +kernel
  have h2 : entryB (.str "/") "path" = true := by decide +kernel
  rw [deedB_str, h1]
  dsimp only
  show (entryB (.int n) "space" && (entryB (.str "/") "path" && (entryB (.str kind) "kind" && true))) = true
  rw [h2, this kind hk]
  rfl
theorem deed_clone {n : Int} {tru : Bool} : deedB (.tup [.str "clone", .int n, .bl tru]) = true := by
  have h1 : formOf "clone" = some (["space", "bool"] : List Str) := by decide +kernel
  rw [deedB_str, h1]
  dsimp only
  rfl
/-- a deed is done: what stands then -/
theorem Fx.deed (h : Fx KL H0 T CW CT CM H x g o a mk l Mt M q v t ml) (hq : q ≤ 80) (hMt : Mt ≤ 9) {n : Int} (hn : n ∈ rng Mt) {dd : Addr} {tv : TV} {t' : Tb} {r : V} {Mt' : Nat} (hd : DdAt H dd t n t' r) (htv : TvAt H (.ref dd) tv) (hb : deedB tv = true) (w' : W28 Mt' (q + 1) t') (hrv : ∀ k ∈ t'.kn, ∀ rt, (∀ k ∈ t.kn, (t.mn k).rv = .ref rt) → (t'.mn k).rv = .ref rt) (hpc : (∀ k ∈ t.kn, t.pc k = []) → ∀ k ∈ t'.kn, t'.pc k = [])
    {Q : VK} (hQ : ∀ H', Fx KL H0 T CW CT CM H' x g o a mk l Mt' M (q + 1) v t' ml → Q r H') : spDo T CW CT CM [.ref x, .ref dd] H Q (fun _ _ _ => False) := by
  obtain ⟨dx, fi, l1, l2, ds, d, rt, W, ⟨O1, O2, O3, O4⟩, n1, n2, n3, dl⟩ := h.ex
  obtain ⟨st, hl, ok⟩ := h.st
  have hw := h.w28
  refine ⟨x, dx, fi, l1, l2, ds, d, t, rt, 100, n, dd, tv, t', r, rfl, W, h.tb, hw.w.wf, hw.sz (by omega) (by omega), by omega, by rw [hw.kn]; exact rng_nd Mt, hw.w.nd, by rw [hw.ts]; exact hn, by rw [hw.tp n hn, hw.kn]; exact hn, hd, htv, hb, by have := dl.1; omega, fun H' d' kp tb' hx' h1' ta' out' => hQ H' ?_⟩
  have go : ∀ {b u}, H b = some u → (∀ f, u ≠ .ins CW dx f) → b ≠ l1 → (∀ ps, u ≠ .tbl ps) → H' b = some u := fun {b u} hb nx nl nt => kp b u (fun z => by rw [z, W.hx] at hb; exact nx _ (Option.some.inj hb).symm) nl nt hb
  have gd : ∀ {b u}, H b = some (.dK u) → H' b = some (.dK u) := fun {b u} hb => go hb (by intro f z; cases z) (ne_of hb W.h1 (by intro z; cases z)) (by intro ps z; cases z)
  exact { h with
    ex := ⟨dx, fi, l1, l2, ds ++ [.ref dd], d', rt, ⟨hx', h1', go W.h2 (by intro f z; cases z) W.ne.symm (by intro ps z; cases z), ta', ⟨go W.fl.hr (by intro f z; cases z) (ne_of W.fl.hr W.h1 (by intro z; cases z)) (by intro ps z; cases z), fun k hk => hrv k hk rt W.fl.rv, by rw [w'.kp, w'.kn], hpc W.fl.pe⟩, W.ne⟩, ⟨out' _ _ h.L.hg (by intro ps z; cases z), out' _ _ h.L.ho (by intro ps z; cases z), out' _ _ h.L.ha (by intro ps z; cases z), out' _ _ h.hm (by intro ps z; cases z)⟩, n1, n2, n3, ⟨by have := dl.1; rw [List.length_append, List.length_singleton]; omega, dl.2⟩⟩
    tb := tb'
    st := ⟨st, go hl (by intro f z; cases z) n1 (by intro ps z; cases z), ok⟩
    w28 := w'
    L := ⟨gd h.L.hg, gd h.L.ho, gd h.L.ha, h.L.n1, h.L.n2, h.L.n3⟩
    hm := gd h.hm
    e0 := fun b u hb n => kp b u (fun z => by rw [z, h.nx] at hb; cases hb) (fun z => by rw [z, n3] at hb; cases hb) n (h.e0 b u hb n)
    gl := Nat.le_succ_of_le h.gl
    mq := Nat.le_succ_of_le h.mq
    kl := fun e he => ⟨go (h.kl e he).1 (by intro f z; cases z) (dl.2 e he) (by intro ps z; cases z), (h.kl e he).2⟩ }
theorem Fx.doMake (h : Fx KL H0 T CW CT CM H x g o a mk l Mt M q v t ml) (hq : q ≤ 80) (hMt : Mt ≤ 9) {n : Int} (hn : n ∈ rng Mt) {dd : Addr} {kind : Str} (hk : kind ∈ kinds4) (hdd : H dd = some (.tup [.str "make", .int n, .str "/", .str kind]))
    {Q : VK} (hQ : ∀ H', Fx KL H0 T CW CT CM H' x g o a mk l Mt M (q + 1) v (t.make n kind) ml → Q .non H') : spDo T CW CT CM [.ref x, .ref dd] H Q (fun _ _ _ => False) := by
  have m := made h.w28.w (n := n) (by rw [h.w28.kn]; exact hn) kind
  have e := h.w28.tp n hn
  have hd : DdAt H dd t n (t.make (t.tp n) kind) .non := .make hdd
  rw [e] at hd
  have kl : kind.length ≤ 100000 := by
    have : ∀ kind ∈ kinds4, kind.length ≤ 100000 := by decide +kernel
    exact this kind hk
  refine h.deed hq hMt hn hd (tv := .tup [.str "make", .int n, .str "/", .str kind]) ⟨dd, _, rfl, hdd, .cons ⟨rfl, by decide +kernel⟩ (.cons rfl (.cons ⟨rfl, by decide +kernel⟩ (.cons ⟨rfl, kl⟩ .nil))), by show 4 ≤ 900; decide, fun z hz => ?_⟩ (deed_make hk) (h.w28.make hn kind) (fun k hk rt hr => ?_) (fun hp k hk => ?_) hQ
  · cases hz
    exact .inl (by decide +kernel)
  · rw [m.r.mn k]
    rw [m.r.kn] at hk
    exact hr k hk
  · rw [m.r.pc]
    rw [m.r.kn] at hk
    exact hp k hk
theorem Fx.doClone (h : Fx KL H0 T CW CT CM H x g o a mk l Mt M q v t ml) (hq : q ≤ 80) (hMt : Mt ≤ 9) {n : Int} (hn : n ∈ rng Mt) {dd : Addr} {tru : Bool} (hdd : H dd = some (.tup [.str "clone", .int n, .bl tru]))
    {Q : VK} (hQ : ∀ H', Fx KL H0 T CW CT CM H' x g o a mk l (Mt + 1) M (q + 1) v (t.clone n tru) ml → Q (.int Mt) H') : spDo T CW CT CM [.ref x, .ref dd] H Q (fun _ _ _ => False) := by
  obtain ⟨w', C⟩ := h.w28.clone hn tru
  have eN : (t.ts.length : Int) = Mt := by rw [h.w28.ts, rng_len]
  have hd : DdAt H dd t n (t.clone n tru) (.int t.ts.length) := .clone hdd (h.w28.clo (by omega) hn)
  rw [eN] at hd
  have hn' : n ∈ t.kn := by
    rw [h.w28.kn]
    exact hn
  have old : ∀ k ∈ (t.clone n tru).kn, k ≠ (Mt : Int) → k ∈ t.kn := fun k hk e => by
    rw [w'.kn, rng_succ] at hk
    rw [h.w28.kn]
    rcases List.mem_append.mp hk with z | z
    · exact z
    · exact absurd (List.mem_singleton.mp z) e
  refine h.deed hq hMt hn hd (tv := .tup [.str "clone", .int n, .bl tru]) ⟨dd, _, rfl, hdd, .cons ⟨rfl, by decide +kernel⟩ (.cons rfl (.cons rfl .nil)), by show 3 ≤ 900; decide, fun z hz => ?_⟩ deed_clone { w' with gl := Nat.le_succ_of_le w'.gl } (fun k hk rt hr => ?_) (fun hp k hk => ?_) hQ
  · cases hz
    exact .inl (by decide +kernel)
  · rw [C.rv]
    split
    · exact hr n hn'
    · rename_i e
      exact hr k (old k hk e)
  · rw [C.pc]
    split
    · rfl
    · rename_i e
      exact hp k (old k hk e)
end
end Rp
set_option Elab.async false
set_option linter.all false
set_option autoImplicit false
set_option maxRecDepth 100000
set_option maxHeartbeats 8000000
/-! one step of both, plainly -/
namespace Rp
open PySem PySem.Spec PyProof.Rows L2 Cm Ob Tx LamX
theorem end1_gm (v : Vw) (kn : List Int) (x : Option Int) : (v.end1 kn x).gm.Sublist v.gm := by
  cases x with
  | none => exact List.Sublist.refl _
  | some g =>
    show (if hasR kn v.gr g = true then v else v.ended g).gm.Sublist v.gm
    split
    · exact List.Sublist.refl _
    · exact List.filter_sublist
theorem make_gm (v : Vw) (kn : List Int) (n L : Int) (kind : Str) : (v.make kn n kind L).gm.Sublist v.gm ∨ (kind = "sharing" ∧ (v.make kn n kind L).gm = v.gm ++ [L]) := by
  unfold Vw.make
  by_cases e1 : kind = "sharing"
  · rw [if_pos e1]
    unfold Vw.mkS
    cases v.gr n with
    | some g => exact .inl (List.Sublist.refl _)
    | none => exact .inr ⟨e1, rfl⟩
  · rw [if_neg e1]
    by_cases e2 : kind = "following"
    · rw [if_pos e2]
      unfold Vw.mkF
      cases v.gr n with
      | none => exact .inl (List.Sublist.refl _)
      | some g => exact .inl (end1_gm _ _ _)
    · rw [if_neg e2]
      exact .inl (end1_gm _ _ _)
theorem make_nd {v : Vw} {kn : List Int} {n L : Int} {kind : Str} (h : v.gm.Nodup) (hL : L ∉ v.gm) : (v.make kn n kind L).gm.Nodup := by
  rcases make_gm v kn n L kind with e | ⟨_, e⟩
  · exact e.nodup h
  · rw [e]
    exact List.nodup_append.mpr ⟨h, by simp, fun a ha b hb z => hL (by rw [← List.mem_singleton.mp hb, ← z]; exact ha)⟩
theorem make_len (v : Vw) (kn : List Int) (n L : Int) (kind : Str) : (v.make kn n kind L).gm.length ≤ v.gm.length + 1 := by
  rcases make_gm v kn n L kind with e | ⟨_, e⟩
  · exact Nat.le_succ_of_le e.length_le
  · rw [e, List.length_append]
    exact Nat.le_refl _
theorem make_lb {v : Vw} {kn : List Int} {n L : Int} {kind : Str} (h : ∀ k ∈ v.gm, k < L) : ∀ k ∈ (v.make kn n kind L).gm, k < (if kind = "sharing" then L + 1 else L) := by
  intro k hk
  rcases make_gm v kn n L kind with e | ⟨e1, e⟩
  · have := h k (e.subset hk)
    split <;> omega
  · rw [if_pos e1]
    rw [e] at hk
    rcases List.mem_append.mp hk with z | z
    · have := h k z
      omega
    · have := List.mem_singleton.mp z
      omega
section
variable {p : Int → Int} {v : Vw} {M q : Nat} {t : Tb} {ml : List Int}
theorem lok_of (W : W28 M q t) (R : Rv p (rng M) v t.vw) (nd : v.gm.Nodup) (gl : v.gm.length ≤ q) (hq : q ≤ 58) : Lok v M := by
  refine ⟨Nat.le_trans gl hq, nd, fun l hl => ?_, R.grm, R.fom, fun l hl z => ?_⟩
  · have hg : p l ∈ t.gm := R.gm l hl
    have ne := W.w.ne (p l) hg id
    obtain ⟨k, hk⟩ := List.exists_mem_of_ne_nil _ ne
    obtain ⟨k1, k2⟩ := (W.w.me _ hg k).mp hk
    rw [W.kn] at k1
    have e1 : (t.mn k).gr = (v.gr k).map p := R.gr k k1
    rw [e1] at k2
    exact hasR_iff.mpr ⟨k, k1, (R.some_iff (R.grm k k1) hl).mp k2⟩
  · have hg : p l ∈ t.gm := R.gm l hl
    have e1 : t.ms (p l) = (v.ms l).map p := R.ms l hl
    rw [z] at e1
    exact Int.lt_irrefl _ (W.w.ms _ hg _ e1).2
/-- the law's step and the program's -/
theorem step_R (W : W28 M q t) (R : Rv p (rng M) v t.vw) (ok : Lok v M) {n L : Int} (hn : n ∈ rng M) (kind : Str) (hL : L ∉ v.gm) : ∃ p', Rv p' (rng M) (v.make (rng M) n kind L) (t.make n kind).vw := by
  have hg : t.cg ∉ t.vw.gm := fun z => Int.lt_irrefl _ (W.w.lt _ z)
  obtain ⟨p', R'⟩ := R.make hn kind hL hg ok.ms
  have m := made W.w (n := n) (by rw [W.kn]; exact hn) kind
  have := m.v
  rw [W.kn] at this
  exact ⟨p', R'.congr this⟩
def mkMl (ml : List Int) (n : Int) (kind : Str) : List Int := if kind = "unbindable" then addK (if kind = "following" then ml else del ml n) n else if kind = "following" then ml else del ml n
theorem step_ma (W : W28 M q t) (hm : ∀ k ∈ rng M, (t.mn k).ma = decide (k ∈ ml)) {n : Int} (hn : n ∈ rng M) (kind : Str) (hk : kind = "sharing" ∨ kind = "following" ∨ kind = "alone" ∨ kind = "unbindable") : ∀ k ∈ rng M, ((t.make n kind).mn k).ma = decide (k ∈ mkMl ml n kind) := by
  intro k hkM
  have m := made W.w (n := n) (by rw [W.kn]; exact hn) kind
  rw [m.ma k]
  rcases hk with e | e | e | e
  · rw [e]
    show (if k = n then false else (t.mn k).ma) = decide (k ∈ del ml n)
    by_cases ek : k = n
    · rw [if_pos ek, ek, decide_eq_false (fun z => (mem_del.mp z).2 rfl)]
    · rw [if_neg ek, hm k hkM]
      exact decide_eq_decide.mpr ⟨fun z => mem_del.mpr ⟨z, ek⟩, fun z => (mem_del.mp z).1⟩
  · rw [e]
    show (if k = n then (t.mn n).ma else (t.mn k).ma) = decide (k ∈ ml)
    by_cases ek : k = n
    · rw [if_pos ek, ek]
      exact hm n hn
    · rw [if_neg ek]
      exact hm k hkM
  · rw [e]
    show (if k = n then decide (("alone" : Str) = "unbindable") else (t.mn k).ma) = decide (k ∈ del ml n)
    by_cases ek : k = n
    · rw [if_pos ek, ek, decide_eq_false (fun z => (mem_del.mp z).2 rfl)]
      decide
    · rw [if_neg ek, hm k hkM]
      exact decide_eq_decide.mpr ⟨fun z => mem_del.mpr ⟨z, ek⟩, fun z => (mem_del.mp z).1⟩
  · rw [e]
    show (if k = n then decide (("unbindable" : Str) = "unbindable") else (t.mn k).ma) = decide (k ∈ addK (del ml n) n)
    by_cases ek : k = n
    · rw [if_pos ek, ek, decide_eq_true (mem_addK.mpr (.inr rfl))]
      decide
    · rw [if_neg ek, hm k hkM]
      refine decide_eq_decide.mpr ⟨fun z => mem_addK.mpr (.inl (mem_del.mpr ⟨z, ek⟩)), fun z => ?_⟩
      rcases mem_addK.mp z with z | z
      · exact (mem_del.mp z).1
      · exact absurd z ek
/-- marks do not change where nothing is made unbindable -/
theorem step_ma0 (W : W28 M q t) (hm : ∀ k ∈ rng M, (t.mn k).ma = decide (k ∈ ([] : List Int))) {n : Int} (hn : n ∈ rng M) (kind : Str) (hk : kind = "sharing" ∨ kind = "following") : ∀ k ∈ rng M, ((t.make n kind).mn k).ma = decide (k ∈ ([] : List Int)) := by
  intro k hkM
  have := step_ma W hm hn kind (hk.imp id .inl) k hkM
  rw [this]
  rcases hk with e | e
  · rw [e]
    rfl
  · rw [e]
    rfl
theorem clone_R (W : W28 M q t) (R : Rv p (rng M) v t.vw) {o : Int} (ho : o ∈ rng M) (tru : Bool) : Rv p (rng (M + 1)) (v.clone o M tru) (t.clone o tru).vw := by
  have := (R.clone (n := (M : Int)) ho tru).congr (u' := (t.clone o tru).vw) (by rw [← rng_succ]; exact (W.clone ho tru).2.v)
  rw [rng_succ]
  exact this
theorem clone_ma (W : W28 M q t) (hm : ∀ k ∈ rng M, (t.mn k).ma = decide (k ∈ ([] : List Int))) {o : Int} (ho : o ∈ rng M) (tru : Bool) : ∀ k ∈ rng (M + 1), ((t.clone o tru).mn k).ma = decide (k ∈ ([] : List Int)) := by
  intro k hk
  rw [(W.clone ho tru).2.ma k]
  by_cases e : k = M
  · rw [if_pos e, hm o ho]
    rfl
  · rw [if_neg e]
    rw [rng_succ] at hk
    rcases List.mem_append.mp hk with z | z
    · exact hm k z
    · exact absurd (List.mem_singleton.mp z) e
/-- what has a group follows nothing -/
theorem gr_fo (W : W28 M q t) (R : Rv p (rng M) v t.vw) {k l : Int} (hk : k ∈ rng M) (h : v.gr k = some l) : v.fo k = none := by
  have e1 : (t.mn k).gr = (v.gr k).map p := R.gr k hk
  have e2 : (t.mn k).fo = (v.fo k).map p := R.fo k hk
  rw [h] at e1
  have := (W.w.gr k (by rw [W.kn]; exact hk) _ e1).2
  rw [e2] at this
  cases e : v.fo k with
  | none => rfl
  | some l =>
    rw [e] at this
    cases this
end
end Rp
set_option autoImplicit true
set_option Elab.async false
set_option linter.all false
set_option maxRecDepth 100000
set_option maxHeartbeats 8000000
namespace Tx
open PySem PySem.Spec PyProof.Rows L2 Cm
theorem scDigit : FnScope ["_law_state", "_law_base", "_law_cell", "_law_found", "_law_number"] ["_law_state", "_law_base"] (defScope sDigit) := ⟨rfl, rfl, rfl, by decide +kernel, rfl, by decide +kernel, by decide +kernel⟩
theorem scCell : FnScope ["_law_script", "_law_k"] ["_law_script", "_law_k"] (defScope sCell) := ⟨rfl, rfl, rfl, by decide +kernel, rfl, by decide +kernel, by decide +kernel⟩
/-- _law_cell_at -/
def spCell (K : PySem.W.Frag) : Sp := fun vs H Q _ => ∃ (a : Addr) (ns : List Int) (k : Nat), vs = [.ref a, .int k] ∧ SqL K H a (ns.map V.int) ∧ ∀ i : Int, (∀ j, ns[k]? = some j → i = j) → Q (.int i) H
section
variable {P : Program} {w : World} {K : PySem.W.Frag} {mg : Str → Option Value} {base : Heap}
theorem ok_cell {f : Addr} {fd : FuncData} {k : Nat} (F : Fun K "_law_cell_at" "_law_cell_at" sCell f fd) (B : Bi mg) : FnOk P w K mg base CX0 (k + 1) f fd ["_law_script", "_law_k"] (spCell K) := by
  refine F.ok scCell (fun vs H Q E h => ?_) (fun cdv A outer s H vs Q E hr h => ?_)
  · obtain ⟨a, ns, j, rfl, _⟩ := h
    rfl
  · obtain ⟨a, ns, j, rfl, hS, q⟩ := h
    refine ⟨_, pss_cons (ps_if (pt_cmpR op_lt (pv 1) (pe_callB call_len_seq (by rfl) B.len PySem.boot_len (pa_cons (pv 0) pa_nil)) (nomark _)) (pss_one (ps_ret (pe_ix ix_list (pv 0) (pv 1) (fun _ _ => rfl)))) pss_nil) (pss_one (ps_ret pe_int)), ?_⟩
    refine ⟨_, rfl, _, rfl, a, _, rfl, .inl hS, _, _, rfl, rfl, _, rfl, ite2 (fun c => ?_) (fun c => ?_)⟩
    · have c' : (j : Int) < ((ns.map V.int).length : Nat) := of_decide_eq_true c
      rw [List.length_map] at c'
      have hj : j < ns.length := by omega
      refine ⟨_, rfl, _, rfl, a, _, j, .int ns[j], rfl, rfl, hS, ?_, q _ fun i e => ?_⟩
      · refine atI_nat ?_
        rw [List.getElem?_map, List.getElem?_eq_getElem hj]
        rfl
      · rw [List.getElem?_eq_getElem hj] at e
        exact Option.some.inj e
    · have c' : ¬ (j : Int) < ((ns.map V.int).length : Nat) := fun z => c (decide_eq_true z)
      rw [List.length_map] at c'
      exact q 0 fun i e => by
        have := (List.getElem?_eq_some_iff.mp e).1
        omega
theorem ok_digit {f : Addr} {fd : FuncData} {k : Nat} (F : Fun K "_law_digit" "_law_digit" sDigit f fd) (B : Bi mg) : FnOk P w K mg base CX0 (k + 1) f fd ["_law_state", "_law_base"] spDigit := by
  refine F.ok scDigit (fun vs H Q E h => ?_) (fun cdv A outer s H vs Q E hr h => ?_)
  · obtain ⟨l, st, b, rfl, _⟩ := h
    rfl
  · obtain ⟨l, st, b, rfl, hl, hst, hb0, hb1, q⟩ := h
    refine ⟨_, C8.pss_cut (ps_if (pt_cmpR op_eq (pe_callB call_len_seq (by rfl) B.len PySem.boot_len (pa_cons (pv 0) pa_nil)) pe_int (nomark _))
        (pss_cons (ps_set (i := 2) scDigit.nd rfl (.inl rfl) (pe_ix ix_list (pv 0) pe_int (fun _ _ => rfl)))
        (pss_cons (ps_asg (pe_ix ix_list (pe_lst (pa_cons pe_int (pa_cons (pv 2) pa_nil))) (pe_callTy call_int1 (by rfl) B.int (by decide +kernel) (pa_cons (pe_cmpR op_ge (pv 2) (pe_op op_pow pe_int pe_int) (nomark _)) pa_nil)) (fun _ _ => rfl)) (pg_sub (pv 0) pe_int set_list))
          (pss_one (ps_expr (pe_bm PySem.F.plainAttrs_list PySem.F.slot_list_extend PySem.F.type_list_extend mt_extend (pv 0) (pa_cons (pe_lst (pa_cons (pe_op op_mod (pe_callTy call_int1 (by rfl) B.int (by decide +kernel) (pa_cons (pv 2) pa_nil)) pe_int) (pa_cons pe_int pa_nil))) pa_nil))))))
        pss_nil)
      (pss_cons (ps_if (pt_cmpR op_gt (pe_ix ix_list (pv 0) pe_int (fun _ _ => rfl)) pe_int (nomark _))
        (pss_cons (ps_set (i := 3) scDigit.nd rfl (.inl rfl) (pe_op op_mod (pe_callTy call_int1 (by rfl) B.int (by decide +kernel) (pa_cons (pe_ix ix_list (pv 0) pe_int (fun _ _ => rfl)) pa_nil)) (pv 1)))
          (pss_cons (ps_asg (pe_op op_fdiv (pe_ix ix_list (pv 0) pe_int (fun _ _ => rfl)) (pv 1)) (pg_sub (pv 0) pe_int set_list))
          (pss_one (ps_ret (pv 3))))) pss_nil)
      (pss_cons (ps_asg (pe_op op_add (pe_ix ix_list (pv 0) pe_int (fun _ _ => rfl)) pe_int) (pg_sub (pv 0) pe_int set_list))
      (pss_cons (ps_set (i := 4) scDigit.nd rfl (.inl rfl) (pe_op op_mod (pe_callTy call_int1 (by rfl) B.int (by decide +kernel) (pa_cons (pe_op op_mul (pe_op op_add (pe_op op_add (pe_ix ix_list (pv 0) pe_int (fun _ _ => rfl)) (pe_op op_mul pe_int (pe_ix ix_list (pv 0) pe_int (fun _ _ => rfl)))) pe_int) pe_int) pa_nil)) pe_int))
      (pss_cons (ps_set (i := 4) scDigit.nd rfl (.inl rfl) (pe_op op_mod (pe_callTy call_int1 (by rfl) B.int (by decide +kernel) (pa_cons (pe_op op_mul (pv 4) (pe_op op_add (pe_op op_fdiv (pv 4) pe_int) pe_int)) pa_nil)) pe_int))
      (pss_one (ps_ret (pe_op op_mod (pe_op op_mod (pe_callTy call_int1 (by rfl) B.int (by decide +kernel) (pa_cons (pe_op op_mul (pv 4) (pe_op op_add (pe_op op_fdiv (pv 4) pe_int) pe_int)) pa_nil)) pe_int) (pv 1)))))))), ?_⟩
    refine ⟨fun σ' H' => ∃ x a b' c, σ' = [some (.ref l), some (.int b), x, none, none] ∧ H' l = some (.lst [.int a, .int b', .int c]) ∧ But l H H', ?_, ?_⟩
    · refine ⟨_, rfl, l, st, rfl, .inl (SqL.of hl), rfl, _, rfl, ?_⟩
      rcases hst with ⟨c, rfl⟩ | ⟨a, b', c, rfl⟩
      · refine iteT ?_
        refine ⟨_, rfl, l, _, 0, .int c, rfl, rfl, SqL.of hl, rfl, ?_⟩
        refine ⟨_, rfl, (by show 2 ≤ sizeLine; decide), fun p hp => ?_⟩
        refine ⟨_, rfl, 10, 18, rfl, rfl, ⟨by decide, by decide, by decide⟩, c, _, rfl, rfl, .inr ⟨_, rfl, ?_⟩⟩
        have npl : l ≠ p := ne_of_none hl hp
        have hl1 : upd H p (.lst [.int 0, .int c]) l = some (.lst [.int c]) := by
          rw [upd_ne npl]
          exact hl
        obtain ⟨z, hz⟩ : ∃ z : Int, atI [V.int 0, V.int c] (if decide (10 ^ Int.toNat 18 ≤ c) = true then 1 else 0) = some (.int z) := by
          split
          · exact ⟨c, rfl⟩
          · exact ⟨0, rfl⟩
        refine ⟨p, _, _, .int z, rfl, rfl, SqL.of upd_same, hz, ?_⟩
        refine ⟨_, rfl, l, _, 0, 0, rfl, rfl, hl1, rfl, ?_⟩
        refine ⟨_, rfl, .inl ⟨rfl, _, SqL.of upd_same⟩, _, rfl, .inl ⟨c, rfl, ?_⟩⟩
        refine ⟨_, _, rfl, rfl, (by show (0 : Int) < 2147483647; decide), (by show 2 ≤ sizeLine; decide), fun p2 hp2 => ?_⟩
        have np2 : l ≠ p2 := ne_of_none upd_same hp2
        refine ⟨l, p2, _, _, rfl, rfl, (by rw [upd_ne np2]; exact upd_same), upd_same, (by show 1 + 2 ≤ sizeLine; decide), ?_⟩
        refine ⟨_, _, _, _, rfl, upd_same, fun b u n e => ?_⟩
        have e1 : upd H p (.lst [.int 0, .int c]) b = some u := by
          rw [upd_ne (ne_of_none e hp)]
          exact e
        have e2 : upd (upd H p (.lst [.int 0, .int c])) l (.lst [.int z]) b = some u := by
          rw [upd_ne n]
          exact e1
        rw [upd_ne n, upd_ne (ne_of_none e2 hp2)]
        exact e2
      · refine iteF ?_
        exact ⟨_, a, b', c, rfl, hl, But.refl l H⟩
    · rintro σ' H1 ⟨x, a, b', c, rfl, h1, bt⟩
      refine ⟨_, rfl, l, _, 0, .int a, rfl, rfl, SqL.of h1, rfl, a, 0, rfl, rfl, _, rfl, ite2 (fun ha => ?_) (fun ha => ?_)⟩
      · refine ⟨_, rfl, l, _, 0, .int a, rfl, rfl, SqL.of h1, rfl, .inl ⟨a, rfl, ?_⟩⟩
        refine ⟨_, rfl, a, b, rfl, rfl, hb0, ?_⟩
        refine ⟨_, rfl, l, _, 0, .int a, rfl, rfl, SqL.of h1, rfl, ?_⟩
        refine ⟨_, rfl, a, b, rfl, rfl, ⟨hb0, hb1⟩, ?_⟩
        refine ⟨_, rfl, l, _, 0, 0, rfl, rfl, h1, rfl, ?_⟩
        refine ⟨_, rfl, ?_⟩
        obtain ⟨d, hd, ed⟩ := mod_nat (x := a) hb0
        dsimp only
        rw [ed]
        exact q d _ _ hd (.inr ⟨_, _, _, rfl⟩) upd_same (bt.trans But.upd)
      · refine ⟨_, rfl, l, _, 2, .int c, rfl, rfl, SqL.of h1, rfl, c, 1, rfl, rfl, ?_⟩
        refine ⟨_, rfl, l, _, 2, 2, rfl, rfl, h1, rfl, ?_⟩
        refine ⟨_, rfl, l, _, 1, .int b', rfl, rfl, SqL.of upd_same, rfl, ?_⟩
        refine ⟨_, rfl, l, _, 2, .int (c + 1), rfl, rfl, SqL.of upd_same, rfl, ?_⟩
        refine ⟨7919, c + 1, rfl, rfl, .inl ⟨by decide, by decide⟩, b', _, rfl, rfl, _, _, rfl, rfl, _, _, rfl, rfl, .inr ⟨by decide, by decide⟩, .inl ⟨_, rfl, ?_⟩⟩
        refine ⟨_, _, rfl, rfl, (by show (0 : Int) < 2147483647; decide), ?_⟩
        obtain ⟨n1, hn1, en1⟩ := mod_nat (x := (b' + 7919 * (c + 1) + 1) * 48271) (b := 2147483647) (by decide)
        dsimp only
        rw [en1]
        refine ⟨_, rfl, _, rfl, n1, 1009, rfl, rfl, ⟨by decide, by decide⟩, _, _, rfl, rfl, n1, _, rfl, rfl, .inl ⟨by omega, by omega⟩, .inl ⟨_, rfl, ?_⟩⟩
        refine ⟨_, _, rfl, rfl, (by show (0 : Int) < 2147483647; decide), ?_⟩
        obtain ⟨n2, hn2, en2⟩ := mod_nat (x := (n1 : Int) * ((n1 : Int) / 1009 + 69621)) (b := 2147483647) (by decide)
        dsimp only
        rw [en2]
        refine ⟨_, rfl, _, rfl, n2, 2003, rfl, rfl, ⟨by decide, by decide⟩, _, _, rfl, rfl, n2, _, rfl, rfl, .inl ⟨by omega, by omega⟩, .inl ⟨_, rfl, ?_⟩⟩
        refine ⟨_, _, rfl, rfl, (by show (0 : Int) < 2147483399; decide), _, rfl, _, b, rfl, rfl, hb0, ?_⟩
        obtain ⟨d, hd, ed⟩ := mod_nat (x := (n2 : Int) * ((n2 : Int) / 2003 + 40692) % 2147483399) hb0
        dsimp only
        rw [ed]
        exact q d _ _ hd (.inr ⟨_, _, _, rfl⟩) upd_same (bt.trans But.upd)
end
end Tx
set_option Elab.async false
set_option linter.all false
set_option autoImplicit false
set_option maxRecDepth 100000
set_option maxHeartbeats 8000000
/-! law: up to the first deed -/
namespace Rp
open PySem PySem.Spec PyProof.Rows L2 Cm Ob Tx LamX
abbrev nLw : List Str := ["_law_script", "_law_k", "_law_state", "_law_world", "_law_groups", "_law_over", "_law_after", "_law_marked", "_law_number", "_law_turn", "_law_trusted", "_law_origin", "_law_kind", "_law_one"]
theorem scLw : FnScope nLw ["_law_script"] (defScope sLaw) := ⟨rfl, rfl, rfl, by decide +kernel, rfl, by decide +kernel, by decide +kernel⟩
def stL0 : Stmt := (defBody sLaw).getD 0 (.Pass ⟨0, 0, 0, 0⟩)
def stT (i : Nat) : Stmt := (forBody stL0).getD i (.Pass ⟨0, 0, 0, 0⟩)
theorem bodyT : forBody stL0 = [stT 0, stT 1, stT 2, stT 3, stT 4, stT 5, stT 6, stT 7] := rfl
def stA (i : Nat) : Stmt := (forBody (stT 6)).getD i (.Pass ⟨0, 0, 0, 0⟩)
theorem bodyA : forBody (stT 6) = [stA 0, stA 1, stA 2, stA 3, stA 4, stA 5] := rfl
def stB (i : Nat) : Stmt := (forBody (stT 7)).getD i (.Pass ⟨0, 0, 0, 0⟩)
theorem bodyB : forBody (stT 7) = [stB 0, stB 1, stB 2, stB 3, stB 4, stB 5, stB 6] := rfl
abbrev XLw (P : Program) (w : World) (K : PySem.W.Frag) (mg : Str → Option Value) (base : Heap) (f : Addr) (cdv : Value) (A : Around) (outer : List Env) (s : Shared) (H0 : Hp) (E : XK) : Cx := (cxOf CX0 P w K mg base nLw "law" (defScope sLaw) f cdv A outer s H0 E).nox
/-- what law calls -/
structure Lw (P : Program) (w : World) (K : PySem.W.Frag) (mg : Str → Option Value) (base : Heap) (T : List (Addr × Str)) (CW CT CM CR CN : Addr) : Prop where
  cell : Cl P w K mg base CX0 1 "_law_cell_at" ["_law_script", "_law_k"] (Tx.spCell K)
  dig : Cl P w K mg base CX0 1 "_law_digit" ["_law_state", "_law_base"] spDigit
  made : Cl P w K mg base CX0 3 "_law_made" nMa spMade
  right : Cl P w K mg base CX0 3 "_law_right" ["_law_world", "_law_groups", "_law_over", "_law_after", "_law_marked"] (spRight CW CT CM)
  mkR : ∃ f fd, Mk K CR f ∧ FnOk P w K mg base (L2.CX P w) 13 f fd ["self", "top"] (spTree K CR CN) ∧ Binds K fd ["self", "top"] []
  gR : mg "Tree" = some (.ref CR)
  mkW : ∃ f fd ds, Mk K CW f ∧ FnOk P w K mg base CX0 7 f fd ["self", "trees", "first", "most"] (spWoI CW CT CM CR) ∧ Binds K fd ["self", "trees", "first", "most"] ds ∧ Vals [.int 1000] ds
  gW : mg "World" = some (.ref CW)
  cW : Cn K CW woN
  doW : MT P w K mg base 9 CW "do" ["self", "deed"] (spDo T CW CT CM)
def v0 : Vw := ⟨fun _ => none, fun _ => none, [], fun _ => none⟩
theorem w28_0 {tr rt : Addr} {z : Str} : W28 1 0 (tbE tr 1000 z rt) := by
  have r1 : rng 1 = [0] := rfl
  have mk : ∀ k ∈ rng 1, k = 0 := fun k hk => by
    rw [r1] at hk
    exact List.mem_singleton.mp hk
  refine ⟨⟨rfl, rfl, List.nodup_nil, fun g h => (by cases h), fun g h => (by cases h), fun g h => (by cases h), fun g => List.nodup_nil, fun g => List.nodup_nil, fun g n h => (by cases h), fun g n h => (by cases h), fun g h => (by cases h), fun n hn g h => ?_, fun n hn g h => ?_, fun g h => (by cases h)⟩, rfl, rfl, rfl, rfl, fun k hk => (by have := mk k hk; subst this; rfl), fun k hk => (by have := mk k hk; subst this; rfl), fun k hk => (by have := mk k hk; subst this; rfl), rfl, rfl, Nat.le_refl _⟩
  · have := mk n hn
    subst this
    cases h
  · have := mk n hn
    subst this
    cases h
theorem rv_0 {tr rt : Addr} {z : Str} : Rv id (rng 1) v0 (tbE tr 1000 z rt).vw := by
  have r1 : rng 1 = [0] := rfl
  have mk : ∀ k ∈ rng 1, k = 0 := fun k hk => by
    rw [r1] at hk
    exact List.mem_singleton.mp hk
  exact ⟨fun a h => (by cases h), fun a h => (by cases h), fun k hk => (by have := mk k hk; subst this; rfl), fun k hk l h => (by cases h), fun k hk => (by have := mk k hk; subst this; rfl), fun k hk l h => (by cases h), fun l h => (by cases h), fun l h => (by cases h)⟩
theorem ma_0 {tr rt : Addr} {z : Str} : ∀ k ∈ rng 1, ((tbE tr 1000 z rt).mn k).ma = decide (k ∈ ([] : List Int)) := fun k hk => by
  have : k = 0 := List.mem_singleton.mp (show k ∈ [(0 : Int)] from hk)
  subst this
  rfl
theorem sq_ext {K : PySem.W.Frag} {H H' : Hp} {a : Addr} {xs : List V} (h : SqL K H a xs) (e : ExtN H H') : SqL K H' a xs := by
  rcases h with (h | ⟨o, h⟩) | h
  · exact .inl (.inl (e _ _ h (by intro ps z; cases z)))
  · exact .inl (.inr ⟨o, e _ _ h (by intro ps z; cases z)⟩)
  · exact .inr h
def TL0 (T : List (Addr × Str)) (H0 : Hp) (a0 : Addr) : L2.St → Hp → Prop := fun σ H => ∃ k s2 s3 s4 s5 s6 s7 s8 s9 s10 s11 s12 s13, σ = [some (.ref a0), k, s2, s3, s4, s5, s6, s7, s8, s9, s10, s11, s12, s13] ∧ ExtN H0 H ∧ Tabs T H
def TLk (T : List (Addr × Str)) (H0 : Hp) (a0 : Addr) : L2.St → Hp → Prop := fun σ H => ∃ (k : Nat) (s2 s3 s4 s5 s6 s7 s8 s9 s10 s11 s12 s13 : Option V), σ = [some (.ref a0), some (.int k), s2, s3, s4, s5, s6, s7, s8, s9, s10, s11, s12, s13] ∧ ExtN H0 H ∧ Tabs T H
/-- the draws' list, new in this turn -/
structure Sn (T : List (Addr × Str)) (H0 : Hp) (l : Addr) (Ht H : Hp) : Prop where
  e0 : ExtN H0 Ht
  tb : Tabs T Ht
  sm : Same Ht H
  n0 : Ht l = none
  st : ∃ st, H l = some (.lst st) ∧ StOk st
theorem Sn.same {T : List (Addr × Str)} {H0 Ht H H' : Hp} {l : Addr} (h : Sn T H0 l Ht H) (s : Same H H') : Sn T H0 l Ht H' := ⟨h.e0, h.tb, h.sm.trans s, h.n0, let ⟨st, a, b⟩ := h.st; ⟨st, s _ _ a, b⟩⟩
def TL1 (T : List (Addr × Str)) (H0 : Hp) (a0 : Addr) : L2.St → Hp → Prop := fun σ H => ∃ k l s3 s4 s5 s6 s7 s8 s9 s10 s11 s12 s13 Ht, σ = [some (.ref a0), k, some (.ref l), s3, s4, s5, s6, s7, s8, s9, s10, s11, s12, s13] ∧ Sn T H0 l Ht H
def TL2 (T : List (Addr × Str)) (H0 : Hp) (a0 CW CT CM : Addr) : L2.St → Hp → Prop := fun σ H => ∃ k l x s4 s5 s6 s7 s8 s9 s10 s11 s12 s13 Ht dx l1 l2 d tr rt, σ = [some (.ref a0), k, some (.ref l), some (.ref x), s4, s5, s6, s7, s8, s9, s10, s11, s12, s13] ∧ Sn T H0 l Ht H ∧ WAt CW CT CM H x dx (.str "t") l1 l2 [] d (tbE tr 1000 "t" rt) rt ∧ Ht x = none ∧ Ht l1 = none
/-- the state between steps: M namespaces, q steps, labels below B -/
def TB (T : List (Addr × Str)) (H0 : Hp) (a0 CW CT CM : Addr) (M q : Nat) (B : Int) (nu : Option V) : L2.St → Hp → Prop := fun σ H => ∃ k l x g o a mk s9 s10 s11 s12 s13 Ht v t ml p, σ = [some (.ref a0), k, some (.ref l), some (.ref x), some (.ref g), some (.ref o), some (.ref a), some (.ref mk), nu, s9, s10, s11, s12, s13] ∧ ExtN H0 Ht ∧ Fx [] Ht T CW CT CM H x g o a mk l M M q v t ml ∧ Rv p (rng M) v t.vw ∧ (∀ k ∈ rng M, (t.mn k).ma = decide (k ∈ ml)) ∧ ∀ n ∈ v.gm, n < B
theorem none_of {H H' : Hp} {b : Addr} (s : Same H H') (h : H' b = none) : H b = none := by
  cases e : H b with
  | none => rfl
  | some o =>
    rw [s _ _ e] at h
    cases h
section
variable {P : Program} {w : World} {K : PySem.W.Frag} {mg : Str → Option Value} {base : Heap} {f : Addr} {cdv : Value} {A : Around} {outer : List Env} {s : Shared} {H0 : Hp} {E : XK} {a0 CW CT CM CR CN : Addr} {ns : List Int} {T : List (Addr × Str)}
theorem hT0 (D : Lw P w K mg base T CW CT CM CR CN) (hr : Room 14 (XLw P w K mg base f cdv A outer s H0 E).A) (hS : SqL K H0 a0 (ns.map V.int)) : Ho (XLw P w K mg base f cdv A outer s H0 E) (stT 0) (TLk T H0 a0) (TL1 T H0 a0) := by
  refine ⟨_, ps_set (i := 2) scLw.nd rfl (.inl rfl) (pe_lst (pa_cons (pe_op op_add (pe_cl D.cell hr (by decide) (by rfl) pass0 (pa_cons (pv 0) (pa_cons (pv 1) pa_nil))) (pe_op op_mul pe_int (pv 1))) pa_nil)), ?_⟩
  rintro D0 σ H ⟨k, s2, s3, s4, s5, s6, s7, s8, s9, s10, s11, s12, s13, rfl, e0, tb⟩ q
  exact ⟨_, rfl, _, rfl, a0, ns, k, rfl, sq_ext hS e0, fun i _ => ⟨_, rfl, 59, k, rfl, rfl, .inl ⟨by decide, by decide⟩, i, _, rfl, rfl, by show 1 ≤ sizeLine; decide, fun l hl => q _ _ ⟨_, l, _, _, _, _, _, _, _, _, _, _, _, H, rfl, e0, tb, same_new hl, hl, _, upd_same, .inl ⟨_, rfl⟩⟩⟩⟩
theorem hT1 (D : Lw P w K mg base T CW CT CM CR CN) (hr : Room 14 (XLw P w K mg base f cdv A outer s H0 E).A) : Ho (XLw P w K mg base f cdv A outer s H0 E) (stT 1) (TL1 T H0 a0) (TL2 T H0 a0 CW CT CM) := by
  obtain ⟨fR, fdR, MR, FR, bR⟩ := D.mkR
  obtain ⟨fW, fdW, ds, MW, FW, bW, vW⟩ := D.mkW
  refine ⟨_, ps_set (i := 3) scLw.nd rfl (.inl rfl) (pe_make MW FW (hr.mono (by decide)) (by rfl) D.gW bW vW pass0 (pa_cons (pe_disp (pps_cons pe_str (pe_make MR FR hr (by rfl) D.gR bR .nil passF (pa_cons pe_dnewK pa_nil)) pps_nil) rfl rfl (by simp) (by decide)) (pa_cons pe_str pa_nil))), ?_⟩
  rintro D0 σ H ⟨k, l, s3, s4, s5, s6, s7, s8, s9, s10, s11, s12, s13, Ht, rfl, S⟩ q
  intro p hp
  have sp := same_new (o := HO.dK []) hp
  have hp1 : upd H p (.dK []) p = some (.dK []) := upd_same
  generalize hH1 : upd H p (.dK []) = H1 at sp hp1 ⊢
  intro p3 hp3 xR dR hxR hdR neR
  have c3 := same_new (o := HO.dK []) hp3
  have hp31 : upd H1 p3 (.dK []) p3 = some (.dK []) := upd_same
  generalize hH2 : upd H1 p3 (.dK []) = H2 at c3 hp31 hxR hdR ⊢
  have hp2 := c3 _ _ hp1
  have sR : Same H2 (upd (upd H2 dR (.own xR)) xR (.ins CR dR [])) := fun e o h => by
    rw [upd_ne (ne_of_none h hxR), upd_ne (ne_of_none h hdR)]
    exact h
  have hnd : NdAt (upd (upd H2 dR (.own xR)) xR (.ins CR dR [])) (.ref p3) (.dir []) := .dir (sR _ _ hp31) rfl (by simp) (by decide) (by simp) (fun i kv p h => by cases h)
  obtain ⟨t0, n0, e0⟩ : ∃ t' n, nv 9 (.dir []) 0 = some (t', n) := ⟨.dir [], 1, by simp [nv, nvs, sortK]⟩
  refine ⟨xR, dR, .ref p3, rfl, upd_same, .inl ⟨[], hnd, ?_, fun e => by rw [e0] at e; cases e⟩⟩
  intro t'' n'' e'' H3 N kvs hx3 hN3 _ b3
  have up3 : Same H2 H3 := fun e o h => b3 e o (ne_of_none h hxR) (sR _ _ h)
  have hp3' := up3 _ _ hp2
  refine ⟨rfl, hp3', [(Sum.inr "t", .ref xR)], rfl, by show 1 ≤ 15; decide, fun xW dW hxW hdW neW => ?_⟩
  have nxp : xR ≠ p := ne_of hx3 hp3' (by intro z; cases z)
  have sH3 : Same H (upd H3 p (.dK (mergeK [] [(Sum.inr "t", .ref xR)]))) := same_mut hp (sp.trans (c3.trans up3))
  have hx4 : upd H3 p (.dK (mergeK [] [(Sum.inr "t", .ref xR)])) xR = some (.ins CR dR (fl N)) := by
    rw [upd_ne nxp]
    exact hx3
  have hp4 : upd H3 p (.dK (mergeK [] [(Sum.inr "t", .ref xR)])) p = some (.dK [((Sum.inr "t" : Key), .ref xR)]) := upd_same
  generalize hH4 : upd H3 p (.dK (mergeK [] [(Sum.inr "t", .ref xR)])) = H4 at hx4 sH3 hp4 hxW hdW ⊢
  have S4 := S.same sH3
  have sW : Same H4 (upd (upd H4 dW (.own xW)) xW (.ins CW dW [])) := fun e o h => by
    rw [upd_ne (ne_of_none h hxW), upd_ne (ne_of_none h hdW)]
    exact h
  refine ⟨xW, dW, p, [((Sum.inr "t" : Key), .ref xR)], [("t", true)], "t", 1000, rfl, ⟨upd_same, ⟨sW _ _ hp4, ⟨rfl, fun i kv e h1 h2 => ?_⟩, by decide +kernel, by show 1 ≤ 1; decide, by show 1 ≤ 8; decide, fun kv hk => ?_⟩, by decide +kernel, by decide +kernel, by simp, fun kv hk => ?_, by decide, by decide⟩, fun H5 l1 l2 d' tr rt b5 nl1 W5 => ⟨rfl, q _ _ ⟨k, l, xW, _, _, _, _, _, _, _, _, _, _, Ht, dW, l1, l2, d', tr, rt, rfl, ?_, W5, none_of S4.sm hxW, ?_⟩⟩⟩
  · cases i with
    | zero =>
      cases h1
      cases h2
      exact ⟨rfl, by decide +kernel, xR, rfl, .inl ⟨rfl, _, _, sW _ _ hx4⟩⟩
    | succ i => cases h1
  · rw [List.mem_singleton.mp hk]
    intro z
    exact nxp (V.ref.inj z)
  · rw [List.mem_singleton.mp hk]
    intro z
    exact ne_of_none hx4 hxW (V.ref.inj z)
  · exact S4.same fun e o h => b5 e o (ne_of_none h hxW) (sW _ _ h)
  · exact none_of (S4.sm.trans sW) nl1
end
end Rp
set_option Elab.async false
set_option linter.all false
set_option autoImplicit false
set_option maxRecDepth 100000
set_option maxHeartbeats 8000000
/-! law: the dicts, the first step -/
namespace Rp
open PySem PySem.Spec PyProof.Rows L2 Cm Ob Tx LamX
theorem W28.up {M q q' : Nat} {t : Tb} (h : W28 M q t) (hq : q ≤ q') : W28 M q' t := { h with gl := Nat.le_trans h.gl hq }
section
variable {KL : List (Addr × List V)} {H0 H H' : Hp} {T : List (Addr × Str)} {CW CT CM x g o a mk l : Addr} {Mt M q : Nat} {v : Vw} {t : Tb} {ml : List Int}
theorem Fx.up (h : Fx KL H0 T CW CT CM H x g o a mk l Mt M q v t ml) {q' : Nat} (hq : q ≤ q') : Fx KL H0 T CW CT CM H x g o a mk l Mt M q' v t ml := by
  obtain ⟨dx, fi, l1, l2, ds, d, rt, W, O, n1, n2, n3, dl⟩ := h.ex
  exact { h with ex := ⟨dx, fi, l1, l2, ds, d, rt, W, O, n1, n2, n3, Nat.le_trans dl.1 hq, dl.2⟩, w28 := h.w28.up hq, gl := Nat.le_trans h.gl hq, mq := Nat.le_trans h.mq hq }
theorem Fx.madeStep (h : Fx KL H0 T CW CT CM H x g o a mk l Mt M q v t ml) (hM : M ≤ 10) (ok : Lok v M) {n L : Int} (hn : n ∈ rng M) (hL : L ∉ v.gm) {kind : Str} (hk : kind ∈ kinds4)
    {Q : VK} (hQ : ∀ H', Fx KL H0 T CW CT CM H' x g o a mk l Mt M (q + 1) (v.make (rng M) n kind L) t ml → Q .non H') : spMade [.ref g, .ref o, .ref a, .int n, .str kind, .int L] H Q (fun _ _ _ => False) := by
  have hk' : kind = "sharing" ∨ kind = "following" ∨ kind = "alone" ∨ kind = "unbindable" := by
    unfold kinds4 at hk
    simpa using hk
  exact ⟨g, o, a, M, v, n, kind, L, rfl, h.L, hM, hn, ok, hL, hk', fun H' b L' => hQ H' ((h.up (Nat.le_succ q)).laws b L' (make_nd h.nd hL) (Nat.le_trans (make_len v (rng M) n L kind) (Nat.succ_le_succ h.gl)))⟩
end
section
variable {P : Program} {w : World} {K : PySem.W.Frag} {mg : Str → Option Value} {base : Heap} {f : Addr} {cdv : Value} {A : Around} {outer : List Env} {s : Shared} {H0 : Hp} {E : XK} {a0 CW CT CM CR CN : Addr} {ns : List Int} {T : List (Addr × Str)}
theorem hT2 : Ho (XLw P w K mg base f cdv A outer s H0 E) (stT 2) (TL2 T H0 a0 CW CT CM) (fun σ H => ∃ s8, TB T H0 a0 CW CT CM 1 0 0 s8 σ H) := by
  refine ⟨_, ps_asg (pe_tup (pa_cons (pe_disp (pps_cons pe_int pe_non pps_nil) rfl rfl (by simp) (by decide)) (pa_cons pe_dnewK (pa_cons (pe_disp (pps_cons pe_int pe_non pps_nil) rfl rfl (by simp) (by decide)) (pa_cons pe_dnewK pa_nil)))))
    (pg_tup rfl (pgs_cons (pg_name (i := 4) scLw.nd rfl (Or.inl rfl)) (pgs_cons (pg_name (i := 5) scLw.nd rfl (Or.inl rfl)) (pgs_cons (pg_name (i := 6) scLw.nd rfl (Or.inl rfl)) (pgs_cons (pg_name (i := 7) scLw.nd rfl (Or.inl rfl)) pgs_nil))))), ?_⟩
  rintro D0 σ H ⟨k, l, x, s4, s5, s6, s7, s8, s9, s10, s11, s12, s13, Ht, dx, l1, l2, d, tr, rt, rfl, S, W, nx, nl1⟩ q
  intro p1 hp1
  refine ⟨upd_same, [(Sum.inl 0, .non)], rfl, by show 1 ≤ 15; decide, ?_⟩
  have c1 : Same H (upd (upd H p1 (.dK [])) p1 (.dK (mergeK [] [(Sum.inl 0, .non)]))) := same_mut hp1 (same_new hp1)
  have e1 : upd (upd H p1 (.dK [])) p1 (.dK (mergeK [] [(Sum.inl 0, .non)])) p1 = some (.dK (dk (rng 1) fun k => oi (v0.gr k))) := upd_same
  generalize hH1 : upd (upd H p1 (.dK [])) p1 (.dK (mergeK [] [(Sum.inl 0, .non)])) = H1 at c1 e1 ⊢
  intro p2 hp2
  have c2 := same_new (o := HO.dK []) hp2
  have e2 : upd H1 p2 (.dK []) p2 = some (.dK (dk v0.gm fun l => oi (v0.ms l))) := upd_same
  generalize hH2 : upd H1 p2 (.dK []) = H2 at c2 e2 ⊢
  intro p3 hp3
  refine ⟨upd_same, [(Sum.inl 0, .non)], rfl, by show 1 ≤ 15; decide, ?_⟩
  have c3 : Same H2 (upd (upd H2 p3 (.dK [])) p3 (.dK (mergeK [] [(Sum.inl 0, .non)]))) := same_mut hp3 (same_new hp3)
  have e3 : upd (upd H2 p3 (.dK [])) p3 (.dK (mergeK [] [(Sum.inl 0, .non)])) p3 = some (.dK (dk (rng 1) fun k => oi (v0.fo k))) := upd_same
  generalize hH3 : upd (upd H2 p3 (.dK [])) p3 (.dK (mergeK [] [(Sum.inl 0, .non)])) = H3 at c3 e3 ⊢
  intro p4 hp4
  have c4 := same_new (o := HO.dK []) hp4
  have e4 : upd H3 p4 (.dK []) p4 = some (set1 []) := upd_same
  generalize hH4 : upd H3 p4 (.dK []) = H4 at c4 e4 ⊢
  refine ⟨by show 4 ≤ sizeLine; decide, fun tp htp => ?_⟩
  have c5 := same_new (o := HO.tup [.ref p1, .ref p2, .ref p3, .ref p4]) htp
  have e5 : upd H4 tp (.tup [.ref p1, .ref p2, .ref p3, .ref p4]) tp = some (.tup [.ref p1, .ref p2, .ref p3, .ref p4]) := upd_same
  generalize hH5 : upd H4 tp (.tup [.ref p1, .ref p2, .ref p3, .ref p4]) = H5 at c5 e5 ⊢
  have W1 := W.same c1
  have W2 := W1.same c2
  have W3 := W2.same c3
  have c15 := c1.trans (c2.trans (c3.trans (c4.trans c5)))
  have sm1 := S.sm.trans c1
  have sm2 := sm1.trans c2
  have sm3 := sm2.trans c3
  have sm5 := S.sm.trans c15
  refine ⟨tp, _, rfl, SqT.of e5, rfl, _, _, rfl, _, _, rfl, _, _, rfl, _, _, rfl, rfl, ?_⟩
  refine q _ _ ⟨s8, k, l, x, p1, p2, p3, p4, s9, s10, s11, s12, s13, Ht, v0, tbE tr 1000 "t" rt, [], id, rfl, S.e0, ?_, rv_0, ma_0, fun n h => (by cases h)⟩
  obtain ⟨st, hl, ok⟩ := S.st
  have nll : ∀ {b}, H b = some (.lst []) → l ≠ b := fun {b} hb e => by
    rw [e, hb] at hl
    cases hl
    rcases ok with ⟨c, z⟩ | ⟨a, b, c, z⟩ <;> cases z
  exact { ex := ⟨dx, .str "t", l1, l2, [], d, rt, W.same c15, ⟨W.ta.out hp1, W1.ta.out hp2, W2.ta.out hp3, W3.ta.out hp4⟩, nll W.h1, nll W.h2, nl1, Nat.le_refl _, fun e h => (by cases h)⟩
          tb := S.tb.ext sm5
          st := ⟨st, c15 _ _ hl, ok⟩
          w28 := w28_0
          L := ⟨c5 _ _ (c4 _ _ (c3 _ _ (c2 _ _ e1))), c5 _ _ (c4 _ _ (c3 _ _ e2)), c5 _ _ (c4 _ _ e3), ne_of_none e1 hp2, ne_of_none (c2 _ _ e1) hp3, ne_of_none e2 hp3⟩
          hm := c5 _ _ e4
          ng := ne_of_none (c3 _ _ (c2 _ _ e1)) hp4
          no := ne_of_none (c3 _ _ e2) hp4
          na := ne_of_none e3 hp4
          e0 := fun b o hb _ => sm5 b o hb
          nx := nx
          nl := S.n0
          n4 := ⟨none_of S.sm hp1, none_of sm1 hp2, none_of sm2 hp3, none_of sm3 hp4⟩
          nd := List.nodup_nil
          gl := Nat.le_refl _
          mq := Nat.le_refl _
          kl := fun e h => (by cases h) }
theorem hT3 : Ho (XLw P w K mg base f cdv A outer s H0 E) (stT 3) (fun σ H => ∃ s8, TB T H0 a0 CW CT CM 1 0 0 s8 σ H) (TB T H0 a0 CW CT CM 1 0 0 (some (.int 0))) := by
  refine ⟨_, ps_set (i := 8) scLw.nd rfl (.inl rfl) pe_int, ?_⟩
  rintro D0 σ H ⟨s8, k, l, x, g, o, a, mk, s9, s10, s11, s12, s13, Ht, v, t, ml, p, rfl, e0, F, R, ma, lb⟩ q
  exact q _ _ ⟨k, l, x, g, o, a, mk, s9, s10, s11, s12, s13, Ht, v, t, ml, p, rfl, e0, F, R, ma, lb⟩
/-- the chain so far: j + 1 namespaces, no marks -/
def pL (T : List (Addr × Str)) (H0 : Hp) (a0 CW CT CM : Addr) (j : Nat) : L2.St → Hp → Prop := fun σ H => ∃ s9 s10 s11 k l x g o a mk s12 s13 Ht v t p, σ = [some (.ref a0), k, some (.ref l), some (.ref x), some (.ref g), some (.ref o), some (.ref a), some (.ref mk), some (.int (j : Int)), s9, s10, s11, s12, s13] ∧ ExtN H0 Ht ∧ Fx [] Ht T CW CT CM H x g o a mk l (j + 1) (j + 1) (2 + 5 * j) v t [] ∧ Rv p (rng (j + 1)) v t.vw ∧ (∀ k ∈ rng (j + 1), (t.mn k).ma = decide (k ∈ ([] : List Int))) ∧ ∀ n ∈ v.gm, n < 10 * (j : Int) + 10
theorem hT45 (D : Lw P w K mg base T CW CT CM CR CN) (hr : Room 14 (XLw P w K mg base f cdv A outer s H0 E).A) {rest : List Stmt} {r : L2.St → Hp → Prop} (Rs : HoS (XLw P w K mg base f cdv A outer s H0 E) rest (pL T H0 a0 CW CT CM 0) r) : HoS (XLw P w K mg base f cdv A outer s H0 E) (stT 4 :: stT 5 :: rest) (TB T H0 a0 CW CT CM 1 0 0 (some (.int 0))) r := by
  obtain ⟨u0, hu0, hR⟩ := Rs
  obtain ⟨fD, fdD, mD, FD, bD⟩ := D.doW
  refine ⟨_, pss_cons (ps_expr (pe_cl D.made hr (by decide) (by rfl) pass0 (pa_cons (pv 4) (pa_cons (pv 5) (pa_cons (pv 6) (pa_cons pe_int (pa_cons pe_str (pa_cons pe_int pa_nil))))))))
    (pss_cons (ps_expr (pe_meth (pv 3) D.cW.cl mD FD (hr.mono (by decide)) bD .nil pass0 (pa_cons (pe_tup (pa_cons pe_str (pa_cons pe_int (pa_cons pe_str (pa_cons pe_str pa_nil))))) pa_nil))) hu0), ?_⟩
  rintro D0 σ H ⟨k, l, x, g, o, a, mk, s9, s10, s11, s12, s13, Ht, v, t, ml, p, rfl, e0, F, R, ma, lb⟩ q
  have h0 : (0 : Int) ∈ rng 1 := by decide
  have ok := lok_of F.w28 R F.nd F.gl (by decide)
  have hL : (0 : Int) ∉ v.gm := fun z => Int.lt_irrefl _ (lb 0 z)
  have hml : ml = [] := List.eq_nil_of_length_eq_zero (Nat.le_zero.mp F.mq)
  subst hml
  refine ⟨_, rfl, _, rfl, _, rfl, ?_⟩
  dsimp only [tCons, tC, tNil, List.cons_append, List.nil_append]
  refine F.madeStep (kind := "sharing") (by decide) ok h0 hL (by decide) ?_
  intro H1 F1
  obtain ⟨dx, fi, l1, l2, ds, d, rt, W, O, n1, n2, n3, dl⟩ := F1.ex
  refine ⟨_, rfl, x, dx, _, rfl, W.hx, rfl, by show 4 ≤ sizeLine; decide, fun dd hdd => ?_⟩
  have F2 := F1.same (same_new (o := HO.tup [.str "make", .int 0, .str "/", .str "sharing"]) hdd)
  refine F2.doMake (kind := "sharing") (by decide) (by decide) h0 (by decide) upd_same fun H3 F3 => ?_
  obtain ⟨p', R'⟩ := step_R F.w28 R ok h0 "sharing" hL
  refine hR D0 _ _ ⟨s9, s10, s11, k, l, x, g, o, a, mk, s12, s13, Ht, _, _, p', rfl, e0, F3, R', step_ma0 F.w28 ma h0 "sharing" (.inl rfl), fun n hn => ?_⟩ q
  have := make_lb (kn := rng 1) (n := 0) (L := 0) (kind := "sharing") lb n hn
  rw [if_pos rfl] at this
  omega
end
end Rp
set_option Elab.async false
set_option linter.all false
set_option autoImplicit false
set_option maxRecDepth 100000
set_option maxHeartbeats 8000000
/-! law: the chain of namespaces -/
namespace Rp
open PySem PySem.Spec PyProof.Rows L2 Cm Ob Tx LamX
/-- statements by what holds ahead and behind, for every turn -/
def HoF {α : Type} (X : Cx) (sts : List Stmt) (p q : α → L2.St → Hp → Prop) : Prop := ∃ t, PSs X sts t ∧ ∀ (i : α) (D : Ends) σ H, p i σ H → (∀ σ' H', q i σ' H' → D.nx σ' H') → t D σ H
theorem HoF.cons {α : Type} {X : Cx} {st : Stmt} {rest : List Stmt} {p q r : α → L2.St → Hp → Prop} (a : ∃ t, PS X st t ∧ ∀ (i : α) (D : Ends) σ H, p i σ H → (∀ σ' H', q i σ' H' → D.nx σ' H') → t D σ H) (b : HoF X rest q r) : HoF X (st :: rest) p r := by
  obtain ⟨t, ht, h1⟩ := a
  obtain ⟨u, hu, h2⟩ := b
  exact ⟨_, pss_cons ht hu, fun i D σ H hp hr => h1 i _ σ H hp fun σ' H' hq => h2 i D σ' H' hq hr⟩
theorem HoF.nil {α : Type} {X : Cx} {p : α → L2.St → Hp → Prop} : HoF X [] p p := ⟨_, pss_nil, fun i D σ H h q => q _ _ h⟩
theorem LdAt.add2 {H : Hp} {g o a : Addr} {M : Nat} {v : Vw} {x y : Option Int} {u1 u2 : HO} (h : LdAt H g o a M v) (e1 : u1 = .dK (putK (dk (rng M) fun j => oi (v.gr j)) (Sum.inl (M : Int) : Key) (oi x))) (e2 : u2 = .dK (putK (dk (rng M) fun j => oi (v.fo j)) (Sum.inl (M : Int) : Key) (oi y))) :
    LdAt (upd (upd H g u1) a u2) g o a (M + 1) ⟨fu v.gr M x, fu v.fo M y, v.gm, v.ms⟩ := by
  have nM : (M : Int) ∉ rng M := fun z => Int.lt_irrefl _ (mem_rng.mp z).2
  have q1 : u1 = .dK (dk (rng (M + 1)) fun j => oi (fu v.gr M x j)) := by rw [e1, put_dk_new nM, fu_map (F := oi), rng_succ]
  have q2 : u2 = .dK (dk (rng (M + 1)) fun j => oi (fu v.fo M y j)) := by rw [e2, put_dk_new nM, fu_map (F := oi), rng_succ]
  refine ⟨?_, ?_, ?_, h.n1, h.n2, h.n3⟩
  · rw [upd_ne h.n2, upd_same, q1]
  · rw [upd_ne h.n3, upd_ne h.n1.symm]
    exact h.ho
  · rw [upd_same, q2]
theorem cutP {xs : List V} {n : Nat} (h : n ≤ xs.length) : cutV xs none (some (n : Int)) = xs.take n := by
  unfold cutV
  rw [HT.sIx_none, HT.sIx_nat, Nat.min_eq_left h]
  rfl
section
variable {T : List (Addr × Str)} {H0 : Hp} {a0 CW CT CM : Addr}
theorem TB.mono {M q q' : Nat} {B B' : Int} {nu : Option V} {σ : L2.St} {H : Hp} (h : TB T H0 a0 CW CT CM M q B nu σ H) (hq : q ≤ q') (hB : B ≤ B') : TB T H0 a0 CW CT CM M q' B' nu σ H := by
  obtain ⟨k, l, x, g, o, a, mk, s9, s10, s11, s12, s13, Ht, v, t, ml, p, e, e0, F, R, ma, lb⟩ := h
  exact ⟨k, l, x, g, o, a, mk, s9, s10, s11, s12, s13, Ht, v, t, ml, p, e, e0, F.up hq, R, ma, fun n hn => by have := lb n hn; omega⟩
/-- .. with no marks, in the turn i -/
def TI (T : List (Addr × Str)) (H0 : Hp) (a0 CW CT CM : Addr) (M q : Nat) (B : Int) (nu : Int) (i : Nat) (s10 s11 : Option V) : L2.St → Hp → Prop := fun σ H => ∃ k l x g o a mk s12 s13 Ht v t p, σ = [some (.ref a0), k, some (.ref l), some (.ref x), some (.ref g), some (.ref o), some (.ref a), some (.ref mk), some (.int nu), some (.int (i : Int)), s10, s11, s12, s13] ∧ ExtN H0 Ht ∧ Fx [] Ht T CW CT CM H x g o a mk l M M q v t [] ∧ Rv p (rng M) v t.vw ∧ (∀ k ∈ rng M, (t.mn k).ma = decide (k ∈ ([] : List Int))) ∧ ∀ n ∈ v.gm, n < B
end
section
variable {P : Program} {w : World} {K : PySem.W.Frag} {mg : Str → Option Value} {base : Heap} {f : Addr} {cdv : Value} {A : Around} {outer : List Env} {s : Shared} {H0 : Hp} {E : XK} {a0 CW CT CM CR CN : Addr} {ns : List Int} {T : List (Addr × Str)}
def pA0 (T : List (Addr × Str)) (H0 : Hp) (a0 CW CT CM : Addr) (i : Nat) : L2.St → Hp → Prop := fun σ H => i ≤ 4 ∧ ∃ s10 s11, TI T H0 a0 CW CT CM (i + 1) (2 + 5 * i) (10 * i + 10) i i s10 s11 σ H
def pA1 (T : List (Addr × Str)) (H0 : Hp) (a0 CW CT CM : Addr) (i : Nat) : L2.St → Hp → Prop := fun σ H => i ≤ 4 ∧ ∃ b s11, TI T H0 a0 CW CT CM (i + 1) (2 + 5 * i) (10 * i + 10) i i (some (.bl b)) s11 σ H
def pA2 (T : List (Addr × Str)) (H0 : Hp) (a0 CW CT CM : Addr) (i : Nat) : L2.St → Hp → Prop := fun σ H => i ≤ 4 ∧ ∃ b r, r ∈ rng (i + 1) ∧ TI T H0 a0 CW CT CM (i + 1) (2 + 5 * i) (10 * i + 10) i i (some (.bl b)) (some (.int r)) σ H
def pA5 (T : List (Addr × Str)) (H0 : Hp) (a0 CW CT CM : Addr) (i : Nat) : L2.St → Hp → Prop := fun σ H => i ≤ 4 ∧ ∃ s10 s11, TI T H0 a0 CW CT CM (i + 2) (3 + 5 * i) (10 * i + 10) ((i : Int) + 1) i s10 s11 σ H
def pA6 (T : List (Addr × Str)) (H0 : Hp) (a0 CW CT CM : Addr) (i : Nat) : L2.St → Hp → Prop := fun σ H => ∃ s10 s11, TI T H0 a0 CW CT CM (i + 2) (2 + 5 * (i + 1)) (10 * i + 20) ((i : Int) + 1) i s10 s11 σ H
theorem hA0 (D : Lw P w K mg base T CW CT CM CR CN) (hr : Room 14 (XLw P w K mg base f cdv A outer s H0 E).A) : ∃ t, PS (XLw P w K mg base f cdv A outer s H0 E) (stA 0) t ∧ ∀ (i : Nat) (D : Ends) σ H, pA0 T H0 a0 CW CT CM i σ H → (∀ σ' H', pA1 T H0 a0 CW CT CM i σ' H' → D.nx σ' H') → t D σ H := by
  refine ⟨_, ps_set (i := 10) scLw.nd rfl (.inl rfl) (pe_cmpR op_eq (pe_cl D.dig hr (by decide) (by rfl) pass0 (pa_cons (pv 2) (pa_cons pe_int pa_nil))) pe_int (nomark _)), ?_⟩
  rintro i D0 σ H ⟨hi, s10, s11, k, l, x, g, o, a, mk, s12, s13, Ht, v, t, p, rfl, e0, F, R, ma, lb⟩ q
  obtain ⟨st, hl, ok⟩ := F.st
  exact ⟨_, rfl, l, st, 3, rfl, hl, ok, by decide, by decide, fun d st' H' hd ok' hl' b' => ⟨rfl, q _ _ ⟨hi, _, s11, k, l, x, g, o, a, mk, s12, s13, Ht, v, t, p, rfl, e0, F.but b' hl' ok', R, ma, lb⟩⟩⟩
theorem hA1 (D : Lw P w K mg base T CW CT CM CR CN) (hr : Room 14 (XLw P w K mg base f cdv A outer s H0 E).A) : ∃ t, PS (XLw P w K mg base f cdv A outer s H0 E) (stA 1) t ∧ ∀ (i : Nat) (D : Ends) σ H, pA1 T H0 a0 CW CT CM i σ H → (∀ σ' H', pA2 T H0 a0 CW CT CM i σ' H' → D.nx σ' H') → t D σ H := by
  refine ⟨_, ps_set (i := 11) scLw.nd rfl (.inl rfl) (pe_ix ix_list (pe_lst (pa_cons (pv 8) (pa_cons (pe_cl D.dig hr (by decide) (by rfl) pass0 (pa_cons (pv 2) (pa_cons (pe_op op_add (pv 8) pe_int) pa_nil))) pa_nil))) (pe_cl D.dig hr (by decide) (by rfl) pass0 (pa_cons (pv 2) (pa_cons pe_int pa_nil))) (fun _ _ => rfl)), ?_⟩
  rintro i D0 σ H ⟨hi, b, s11, k, l, x, g, o, a, mk, s12, s13, Ht, v, t, p, rfl, e0, F, R, ma, lb⟩ q
  obtain ⟨st, hl, ok⟩ := F.st
  refine ⟨_, rfl, _, rfl, _, rfl, (i : Int), 1, rfl, rfl, l, st, (i : Int) + 1, rfl, hl, ok, by omega, by omega, fun d1 st1 H1 hd1 ok1 hl1 b1 => ?_⟩
  have F1 := F.but b1 hl1 ok1
  refine ⟨by show 2 ≤ sizeLine; decide, fun pl hpl => ?_⟩
  have s2 := same_new (o := HO.lst [V.int i, .int d1]) hpl
  have hp2 : upd H1 pl (.lst [V.int i, .int d1]) pl = some (.lst [.int i, .int d1]) := upd_same
  generalize hH2 : upd H1 pl (.lst [V.int i, .int d1]) = H2 at s2 hp2 ⊢
  have F2 := F1.same s2
  have npl : pl ≠ l := fun e => by
    rw [e, hl1] at hpl
    cases hpl
  obtain ⟨st2, hl2, ok2⟩ := F2.st
  refine ⟨_, rfl, l, st2, 2, rfl, hl2, ok2, by decide, by decide, fun d2 st3 H3 hd2 ok3 hl3 b3 => ?_⟩
  have F3 := F2.but b3 hl3 ok3
  have hp3 := b3 pl _ npl hp2
  have fin : ∀ r : Int, r ∈ rng (i + 1) → D0.nx [some (.ref a0), k, some (.ref l), some (.ref x), some (.ref g), some (.ref o), some (.ref a), some (.ref mk), some (.int i), some (.int (i : Int)), some (.bl b), some (.int r), s12, s13] H3 := fun r hr => q _ _ ⟨hi, b, r, hr, k, l, x, g, o, a, mk, s12, s13, Ht, v, t, p, rfl, e0, F3, R, ma, lb⟩
  have h01 : d2 = 0 ∨ d2 = 1 := by omega
  rcases h01 with rfl | rfl
  · exact ⟨pl, _, 0, .int i, rfl, rfl, SqL.of hp3, rfl, fin i (mem_rng.mpr ⟨by omega, by omega⟩)⟩
  · exact ⟨pl, _, 1, .int d1, rfl, rfl, SqL.of hp3, rfl, fin d1 (mem_rng.mpr ⟨by omega, by omega⟩)⟩
end
end Rp
set_option Elab.async false
set_option linter.all false
set_option autoImplicit false
set_option maxRecDepth 100000
set_option maxHeartbeats 8000000
/-! law: the chain of namespaces, a clone -/
namespace Rp
open PySem PySem.Spec PyProof.Rows L2 Cm Ob Tx LamX
section
variable {P : Program} {w : World} {K : PySem.W.Frag} {mg : Str → Option Value} {base : Heap} {f : Addr} {cdv : Value} {A : Around} {outer : List Env} {s : Shared} {H0 : Hp} {E : XK} {a0 CW CT CM CR CN : Addr} {ns : List Int} {T : List (Addr × Str)}
theorem vw_ext {a b : Vw} (h1 : a.gr = b.gr) (h2 : a.fo = b.fo) (h3 : a.gm = b.gm) (h4 : a.ms = b.ms) : a = b := by
  cases a
  cases b
  cases h1
  cases h2
  cases h3
  cases h4
  rfl
theorem fu_fu {α : Type} {f : Int → α} {n : Int} {x y : α} : fu (fu f n x) n y = fu f n y := funext fun k => by
  by_cases e : k = n
  · rw [e, fu_same, fu_same]
  · rw [fu_ne e, fu_ne e, fu_ne e]
theorem hA24 (D : Lw P w K mg base T CW CT CM CR CN) (hr : Room 14 (XLw P w K mg base f cdv A outer s H0 E).A) {rest : List Stmt} {r : Nat → L2.St → Hp → Prop} (R : HoF (XLw P w K mg base f cdv A outer s H0 E) rest (pA5 T H0 a0 CW CT CM) r) :
    HoF (XLw P w K mg base f cdv A outer s H0 E) (stA 2 :: stA 3 :: stA 4 :: rest) (pA2 T H0 a0 CW CT CM) r := by
  obtain ⟨u0, hu0, hR⟩ := R
  obtain ⟨fD, fdD, mD, FD, bD⟩ := D.doW
  have hu := units1 (hr.mono (by decide : 1 ≤ 14))
  refine ⟨_, pss_cons (ps_set (i := 8) scLw.nd rfl (.inl rfl) (pe_meth (pv 3) D.cW.cl mD FD (hr.mono (by decide)) bD .nil pass0 (pa_cons (pe_tup (pa_cons pe_str (pa_cons (pv 11) (pa_cons (pv 10) pa_nil)))) pa_nil)))
    (pss_cons (ps_asg (pe_tup (pa_cons (pe_dget hu (pv 4) (pv 11) (fun _ _ => rfl)) (pa_cons (pe_dget hu (pv 6) (pv 11) (fun _ _ => rfl)) pa_nil))) (pg_tup rfl (pgs_cons (pg_sub (pv 4) (pv 8) (set_dict hu)) (pgs_cons (pg_sub (pv 6) (pv 8) (set_dict hu)) pgs_nil))))
    (pss_cons (ps_if (PW.pt (pw_and (pt_not (pt_val (pv 10))) (pw_and1 (pt_cmpR op_notN (pe_dget hu (pv 4) (pv 11) (fun _ _ => rfl)) pe_non (nomark _))))) (pss_one (ps_asg (pe_tup (pa_cons pe_non (pa_cons (pe_dget hu (pv 4) (pv 11) (fun _ _ => rfl)) pa_nil))) (pg_tup rfl (pgs_cons (pg_sub (pv 4) (pv 8) (set_dict hu)) (pgs_cons (pg_sub (pv 6) (pv 8) (set_dict hu)) pgs_nil))))) pss_nil) hu0)), ?_⟩
  rintro i D0 σ H ⟨hi, b, r', hr', k, l, x, g, o, a, mk, s12, s13, Ht, v, t, p, rfl, e0, F, R, ma, lb⟩ q
  obtain ⟨dx, fi, l1, l2, ds, d, rt, W, O, n1, n2, n3, dl⟩ := F.ex
  refine ⟨_, rfl, x, dx, _, rfl, W.hx, rfl, _, rfl, _, rfl, by show 3 ≤ sizeLine; decide, fun dd hdd => ?_⟩
  have F1 := F.same (same_new (o := HO.tup [.str "clone", .int r', .bl b]) hdd)
  refine F1.doClone (by omega) (by omega) hr' upd_same fun H2 F2 => ?_
  have eM : ((i + 1 : Nat) : Int) = (i : Int) + 1 := by omega
  have nM : ((i + 1 : Nat) : Int) ∉ rng (i + 1) := fun z => Int.lt_irrefl _ (mem_rng.mp z).2
  have ner : r' ≠ ((i + 1 : Nat) : Int) := fun z => nM (by rw [← z]; exact hr')
  have sz : ∀ j : Nat, j ≤ 10 → (rng j).length < sizeLine := fun j hj => sz5 (by rw [rng_len]; omega)
  -- what is read of the origin
  refine ⟨_, rfl, _, rfl, g, _, rfl, dget_dk (f := fun j => oi (v.gr j)) F2.L.hg hr', _, rfl, _, rfl, a, _, rfl, dget_dk (f := fun j => oi (v.fo j)) F2.L.ha hr', by show 2 ≤ sizeLine; decide, fun p2 hp2 => ?_⟩
  have s3 := same_new (o := HO.tup [oi (v.gr r'), oi (v.fo r')]) hp2
  have hp3 : upd H2 p2 (.tup [oi (v.gr r'), oi (v.fo r')]) p2 = some (.tup [oi (v.gr r'), oi (v.fo r')]) := upd_same
  generalize hH3 : upd H2 p2 (.tup [oi (v.gr r'), oi (v.fo r')]) = H3 at s3 hp3 ⊢
  have F3 := F2.same s3
  refine ⟨p2, _, rfl, SqT.of hp3, rfl, _, _, rfl, _, rfl, _, rfl, g, _, rfl, DPut.k (k := (Sum.inl ((i + 1 : Nat) : Int) : Key)) F3.L.hg (by rw [dk_len]; exact sz _ (by omega)), _, _, rfl, _, rfl, _, rfl, a, _, rfl, DPut.k (k := (Sum.inl ((i + 1 : Nat) : Int) : Key)) (by rw [upd_ne F3.L.n2.symm]; exact F3.L.ha) (by rw [dk_len]; exact sz _ (by omega)), rfl, ?_⟩
  have L4 := F3.L.add2 (x := v.gr r') (y := v.fo r') rfl rfl
  have b4 : ∀ u1 u2, ButG g o a H3 (upd (upd H3 g u1) a u2) := fun u1 u2 c u n1 n2 n3 hc => by
    rw [upd_ne n3, upd_ne n1]
    exact hc
  have F4 := F3.laws (b4 _ _) L4 F3.nd F3.gl
  generalize upd (upd H3 g _) a _ = H4 at F4 ⊢
  have gM : fu v.gr ((i + 1 : Nat) : Int) (v.gr r') r' = v.gr r' := fu_ne ner
  have inr : r' ∈ rng (i + 1 + 1) := by
    rw [rng_succ]
    exact List.mem_append_left _ hr'
  have inM : ((i + 1 : Nat) : Int) ∈ rng (i + 1 + 1) := by
    rw [rng_succ]
    simp
  have hg4 : DGet H4 g (.int r') (some (oi (v.gr r'))) := by
    have := dget_dk (f := fun j => oi (fu v.gr ((i + 1 : Nat) : Int) (v.gr r') j)) F4.L.hg inr
    rw [gM] at this
    exact this
  have fin : ∀ H' v', v' = v.clone r' ((i + 1 : Nat) : Int) b → Fx [] Ht T CW CT CM H' x g o a mk l (i + 1 + 1) (i + 1 + 1) (2 + 5 * i + 1) v' (t.clone r' b) [] → u0 D0 [some (.ref a0), k, some (.ref l), some (.ref x), some (.ref g), some (.ref o), some (.ref a), some (.ref mk), some (.int ((i + 1 : Nat) : Int)), some (.int (i : Int)), some (.bl b), some (.int r'), s12, s13] H' := fun H' v' e F' => by
    subst e
    refine hR i D0 _ _ ⟨hi, _, _, k, l, x, g, o, a, mk, s12, s13, Ht, _, _, p, rfl, e0, F'.up (by omega), clone_R F.w28 R hr' b, clone_ma F.w28 ma hr' b, fun n hn => ?_⟩ q
    exact lb n hn
  refine ⟨_, rfl, _, rfl, ?_⟩
  cases b with
  | true =>
    refine iteF (fin H4 _ ?_ F4)
    refine vw_ext rfl ?_ rfl rfl
    show fu v.fo ((i + 1 : Nat) : Int) (v.fo r') = fu v.fo ((i + 1 : Nat) : Int) (match v.gr r' with | none => v.fo r' | some g => if true = true then none else some g)
    cases eg : v.gr r' with
    | none => rfl
    | some gg =>
      rw [gr_fo F.w28 R hr' eg]
      rfl
  | false =>
    refine iteT ⟨_, rfl, _, rfl, g, _, rfl, hg4, rfl, _, rfl, ?_⟩
    cases eg : v.gr r' with
    | none =>
      rw [eg] at F4
      refine iteF (fin H4 _ ?_ F4)
      refine vw_ext rfl ?_ rfl rfl
      show fu v.fo ((i + 1 : Nat) : Int) (v.fo r') = fu v.fo ((i + 1 : Nat) : Int) (match v.gr r' with | none => v.fo r' | some g => if false = true then none else some g)
      rw [eg]
    | some gg =>
      rw [eg] at hg4
      refine iteT ⟨_, rfl, _, rfl, g, _, rfl, hg4, by show 2 ≤ sizeLine; decide, fun p5 hp5 => ?_⟩
      have s5 := same_new (o := HO.tup [.non, oi (some gg)]) hp5
      have hp6 : upd H4 p5 (.tup [.non, oi (some gg)]) p5 = some (.tup [.non, oi (some gg)]) := upd_same
      generalize hH5 : upd H4 p5 (.tup [.non, oi (some gg)]) = H5 at s5 hp6 ⊢
      have F5 := F4.same s5
      refine ⟨p5, _, rfl, SqT.of hp6, rfl, _, _, rfl, _, rfl, _, rfl, g, _, rfl, DPut.k (k := (Sum.inl ((i + 1 : Nat) : Int) : Key)) F5.L.hg (by rw [dk_len]; exact sz _ (by omega)), _, _, rfl, _, rfl, _, rfl, a, _, rfl, DPut.k (k := (Sum.inl ((i + 1 : Nat) : Int) : Key)) (by rw [upd_ne F5.L.n2.symm]; exact F5.L.ha) (by rw [dk_len]; exact sz _ (by omega)), rfl, ?_⟩
      have L6 := (F5.L.set2 (x := none) (y := some gg) inM rfl rfl).1
      have b6 : ∀ u1 u2, ButG g o a H5 (upd (upd H5 g u1) a u2) := fun u1 u2 c u n1 n2 n3 hc => by
        rw [upd_ne n3, upd_ne n1]
        exact hc
      refine fin _ _ ?_ (F5.laws (b6 _ _) L6 F5.nd F5.gl)
      refine vw_ext ?_ ?_ rfl rfl
      · show fu (fu v.gr ((i + 1 : Nat) : Int) (v.gr r')) ((i + 1 : Nat) : Int) none = fu v.gr ((i + 1 : Nat) : Int) none
        exact fu_fu
      · show fu (fu v.fo ((i + 1 : Nat) : Int) (v.fo r')) ((i + 1 : Nat) : Int) (some gg) = fu v.fo ((i + 1 : Nat) : Int) (match v.gr r' with | none => v.fo r' | some g => if false = true then none else some g)
        rw [fu_fu, eg]
        rfl
end
end Rp
set_option Elab.async false
set_option linter.all false
set_option autoImplicit false
set_option maxRecDepth 100000
set_option maxHeartbeats 8000000
/-! law: the chain of namespaces, whole -/
namespace Rp
open PySem PySem.Spec PyProof.Rows L2 Cm Ob Tx LamX
section
variable {P : Program} {w : World} {K : PySem.W.Frag} {mg : Str → Option Value} {base : Heap} {f : Addr} {cdv : Value} {A : Around} {outer : List Env} {s : Shared} {H0 : Hp} {E : XK} {a0 CW CT CM CR CN : Addr} {ns : List Int} {T : List (Addr × Str)}
/-- a kind made of the newest root, in the program and in the law -/
def pK (KL : List (Addr × List V)) (T : List (Addr × Str)) (H0 : Hp) (a0 CW CT CM : Addr) (i j : Nat) (kind : Option V) : L2.St → Hp → Prop := fun σ H => ∃ k l x g o a mk s10 s11 s13 Ht v t p, σ = [some (.ref a0), k, some (.ref l), some (.ref x), some (.ref g), some (.ref o), some (.ref a), some (.ref mk), some (.int ((i : Int) + 1)), some (.int (i : Int)), s10, s11, kind, s13] ∧ ExtN H0 Ht ∧ Fx KL Ht T CW CT CM H x g o a mk l (i + 2) (i + 2) (3 + 5 * i + 2 * j) v t [] ∧ Rv p (rng (i + 2)) v t.vw ∧ (∀ k ∈ rng (i + 2), (t.mn k).ma = decide (k ∈ ([] : List Int))) ∧ ∀ n ∈ v.gm, n < (if j ≤ 1 then 10 * (i : Int) + 10 else 10 * (i : Int) + 20)
theorem hKind (D : Lw P w K mg base T CW CT CM CR CN) (hr : Room 14 (XLw P w K mg base f cdv A outer s H0 E).A) : ∃ t, PSs (XLw P w K mg base f cdv A outer s H0 E) (forBody (stA 5)) t ∧ ∀ (KL : List (Addr × List V)) (i j : Nat) (kind : Str) (D : Ends) σ H, i ≤ 4 → (j = 0 ∧ kind = "following" ∨ j = 1 ∧ kind = "sharing") → pK KL T H0 a0 CW CT CM i j (some (.str kind)) σ H → (∀ σ' H' s12, pK KL T H0 a0 CW CT CM i (j + 1) s12 σ' H' → D.nx σ' H') → t D σ H := by
  obtain ⟨fD, fdD, mD, FD, bD⟩ := D.doW
  refine ⟨_, pss_cons (ps_expr (pe_meth (pv 3) D.cW.cl mD FD (hr.mono (by decide)) bD .nil pass0 (pa_cons (pe_tup (pa_cons pe_str (pa_cons (pv 8) (pa_cons pe_str (pa_cons (pv 12) pa_nil))))) pa_nil)))
    (pss_one (ps_expr (pe_cl D.made hr (by decide) (by rfl) pass0 (pa_cons (pv 4) (pa_cons (pv 5) (pa_cons (pv 6) (pa_cons (pv 8) (pa_cons (pv 12) (pa_cons (pe_op op_add (pe_op op_mul pe_int (pv 9)) pe_int) pa_nil))))))))), ?_⟩
  rintro KL i j kind D0 σ H hi hj ⟨k, l, x, g, o, a, mk, s10, s11, s13, Ht, v, t, p, rfl, e0, F, R, ma, lb⟩ q
  have hn : (i : Int) + 1 ∈ rng (i + 2) := mem_rng.mpr ⟨by omega, by omega⟩
  have lb' : ∀ n ∈ v.gm, n < 10 * (i : Int) + 10 := fun n hn => by
    have := lb n hn
    rcases hj with ⟨e, _⟩ | ⟨e, _⟩ <;> subst e <;> simpa using this
  have hL : 10 * (i : Int) + 10 ∉ v.gm := fun z => Int.lt_irrefl _ (lb' _ z)
  have hk : kind ∈ kinds4 := by
    rcases hj with ⟨_, e⟩ | ⟨_, e⟩ <;> (rw [e]; decide)
  have hk2 : kind = "sharing" ∨ kind = "following" := by
    rcases hj with ⟨_, e⟩ | ⟨_, e⟩
    · exact .inr e
    · exact .inl e
  have hj1 : j ≤ 1 := by omega
  have ok := lok_of F.w28 R F.nd F.gl (by omega)
  obtain ⟨dx, fi, l1, l2, ds, d, rt, W, O, n1, n2, n3, dl⟩ := F.ex
  refine ⟨_, rfl, x, dx, _, rfl, W.hx, rfl, _, rfl, _, rfl, by show 4 ≤ sizeLine; decide, fun dd hdd => ?_⟩
  have F1 := F.same (same_new (o := HO.tup [.str "make", .int ((i : Int) + 1), .str "/", .str kind]) hdd)
  refine F1.doMake (by omega) (by omega) hn hk upd_same fun H2 F2 => ?_
  refine ⟨_, rfl, _, rfl, _, rfl, _, rfl, _, rfl, _, rfl, 10, (i : Int), rfl, rfl, .inl ⟨by decide, by decide⟩, 10 * (i : Int), 10, rfl, rfl, ?_⟩
  dsimp only [tNil, List.cons_append, List.nil_append]
  refine F2.madeStep (by omega) ok hn hL hk fun H3 F3 => ?_
  obtain ⟨p', R'⟩ := step_R F.w28 R ok hn kind hL
  refine q _ _ _ ⟨k, l, x, g, o, a, mk, s10, s11, s13, Ht, _, _, p', rfl, e0, F3.up (by omega), R', step_ma0 F.w28 ma hn kind hk2, fun n hn => ?_⟩
  have := make_lb (kn := rng (i + 2)) (n := (i : Int) + 1) (L := 10 * (i : Int) + 10) (kind := kind) lb' n hn
  rcases hj with ⟨e, e2⟩ | ⟨e, e2⟩
  · subst e
    rw [e2, if_neg (by decide)] at this
    rw [if_pos (by decide)]
    exact this
  · subst e
    rw [e2, if_pos rfl] at this
    rw [if_neg (by decide)]
    omega
theorem loopK {u : TS} (hq : ∀ (KL : List (Addr × List V)) (i j : Nat) (kind : Str) (D : Ends) σ H, i ≤ 4 → (j = 0 ∧ kind = "following" ∨ j = 1 ∧ kind = "sharing") → pK KL T H0 a0 CW CT CM i j (some (.str kind)) σ H → (∀ σ' H' s12, pK KL T H0 a0 CW CT CM i (j + 1) s12 σ' H' → D.nx σ' H') → u D σ H)
    {i m : Nat} (hi : i ≤ 4) (hm : m ≤ 2) {p3 : Addr} {D0 : Ends} {σ0 : L2.St} {H4 : Hp} {s12 : Option V} (h0 : pK [(p3, ([.str "following", .str "sharing"] : List V).take m)] T H0 a0 CW CT CM i 0 s12 σ0 H4) (q : ∀ σ' H', pA6 T H0 a0 CW CT CM i σ' H' → D0.nx σ' H') :
    ∃ W : Nat → Nat → L2.St → Hp → Prop, (∃ m', W 0 m' σ0 H4) ∧ ∀ i' m' σ H, W i' m' σ H →
      ((Itl K p3).stop i' H ∧ D0.nx σ H) ∨ ((Itl K p3).go i' H ∧ ∃ N : L2.St → Hp → Prop, (∀ σ' H', N σ' H' → ∃ m'', m'' < m' ∧ W (i' + 1) m'' σ' H') ∧ ∀ y H', (Itl K p3).yld i' H y H' → gName 12 y σ H' fun σ2 H2 => u { D0 with nx := N, ct := N, bk := D0.nx } σ2 H2) := by
  have kp : ∀ {j s12 σ H}, pK [(p3, ([.str "following", .str "sharing"] : List V).take m)] T H0 a0 CW CT CM i j s12 σ H → H p3 = some (.lst (([.str "following", .str "sharing"] : List V).take m)) := fun {j s12 σ H} h => by
    obtain ⟨k, l, x, g, o, a, mk, s10, s11, s13, Ht, v, t, p, rfl, e0, F, R, ma, lb⟩ := h
    exact (F.kl _ List.mem_cons_self).1
  have ml : ((([.str "following", .str "sharing"] : List V).take m)).length = m := by
    rw [List.length_take]
    exact Nat.min_eq_left hm
  refine for_list (K := K) (a := p3) (xs := (([.str "following", .str "sharing"] : List V).take m)) (fun j σ H => j ≤ m ∧ ∃ s12, pK [(p3, ([.str "following", .str "sharing"] : List V).take m)] T H0 a0 CW CT CM i j s12 σ H) ⟨Nat.zero_le _, s12, h0⟩ (fun j σ H _ h => SqL.of (kp h.2.choose_spec)) ?_ ?_
  · rintro j y σ H hy ⟨hj, s12, h⟩
    have hjm : j < m := by
      have := (List.getElem?_eq_some_iff.mp hy).1
      rw [ml] at this
      exact this
    rw [List.getElem?_take, if_pos hjm] at hy
    obtain ⟨k, l, x, g, o, a, mk, s10, s11, s13, Ht, v, t, p, rfl, e0, F, R, ma, lb⟩ := h
    have h01 : j = 0 ∨ j = 1 := by omega
    rcases h01 with rfl | rfl
    · cases hy
      exact hq _ i 0 "following" _ _ _ hi (.inl ⟨rfl, rfl⟩) ⟨k, l, x, g, o, a, mk, s10, s11, s13, Ht, v, t, p, rfl, e0, F, R, ma, lb⟩ fun σ' H' s12 h' => ⟨hjm, s12, h'⟩
    · cases hy
      exact hq _ i 1 "sharing" _ _ _ hi (.inr ⟨rfl, rfl⟩) ⟨k, l, x, g, o, a, mk, s10, s11, s13, Ht, v, t, p, rfl, e0, F, R, ma, lb⟩ fun σ' H' s12 h' => ⟨hjm, s12, h'⟩
  · rintro σ H ⟨hj, s12, h⟩
    rw [ml] at h
    obtain ⟨k, l, x, g, o, a, mk, s10, s11, s13, Ht, v, t, p, rfl, e0, F, R, ma, lb⟩ := h
    refine q _ _ ⟨s10, s11, k, l, x, g, o, a, mk, s12, s13, Ht, v, t, p, rfl, e0, F.drop.up (by omega), R, ma, fun n hn => ?_⟩
    have := lb n hn
    split at this <;> omega
theorem hA5 (D : Lw P w K mg base T CW CT CM CR CN) (hr : Room 14 (XLw P w K mg base f cdv A outer s H0 E).A) : ∃ t, PS (XLw P w K mg base f cdv A outer s H0 E) (stA 5) t ∧ ∀ (i : Nat) (D : Ends) σ H, pA5 T H0 a0 CW CT CM i σ H → (∀ σ' H', pA6 T H0 a0 CW CT CM i σ' H' → D.nx σ' H') → t D σ H := by
  obtain ⟨u, hu, hq⟩ := hKind (a0 := a0) D hr
  refine ⟨_, ps_for PassesOwn.never rfl (pi_list (pe_slice sl_list (pe_lst (pa_cons pe_str (pa_cons pe_str pa_nil))) po_none (po_some (pe_ix ix_list (pe_lst (pa_cons pe_int (pa_cons pe_int (pa_cons pe_int pa_nil)))) (pe_cl D.dig hr (by decide) (by rfl) pass0 (pa_cons (pv 2) (pa_cons pe_int pa_nil))) (fun _ _ => rfl))))) (pg_name (i := 12) scLw.nd rfl (Or.inl rfl)) hu, ?_⟩
  rintro i D0 σ H ⟨hi, s10, s11, k, l, x, g, o, a, mk, s12, s13, Ht, v, t, p, rfl, e0, F, R, ma, lb⟩ q
  refine ⟨by show 2 ≤ sizeLine; decide, fun p1 hp1 => ?_⟩
  have s1 := same_new (o := HO.lst [.str "following", .str "sharing"]) hp1
  have h1 : upd H p1 (.lst [.str "following", .str "sharing"]) p1 = some (.lst [.str "following", .str "sharing"]) := upd_same
  generalize hH1 : upd H p1 (.lst [.str "following", .str "sharing"]) = H1 at s1 h1 ⊢
  have F1 := F.same s1
  refine ⟨by show 3 ≤ sizeLine; decide, fun p2 hp2 => ?_⟩
  have s2 := same_new (o := HO.lst [V.int 0, .int 2, .int 1]) hp2
  have h2 : upd H1 p2 (.lst [V.int 0, .int 2, .int 1]) p2 = some (.lst [V.int 0, .int 2, .int 1]) := upd_same
  generalize hH2 : upd H1 p2 (.lst [V.int 0, .int 2, .int 1]) = H2 at s2 h2 ⊢
  have F2 := F1.same s2
  obtain ⟨st, hl, ok⟩ := F2.st
  have nl1 : p1 ≠ l := fun e => by
    rw [e] at h1
    rw [s2 _ _ h1] at hl
    cases hl
    rcases ok with ⟨c, z⟩ | ⟨a, b, c, z⟩ <;> cases z
  have nl2 : p2 ≠ l := fun e => by
    obtain ⟨st', hl', _⟩ := F1.st
    rw [e, hl'] at hp2
    cases hp2
  refine ⟨_, rfl, l, st, 3, rfl, hl, ok, by decide, by decide, fun d st' H3 hd ok' hl' b' => ?_⟩
  have F3 := F2.but b' hl' ok'
  have h13 := b' p1 _ nl1 (s2 _ _ h1)
  have h23 := b' p2 _ nl2 h2
  have fin : ∀ m : Nat, m ≤ 2 → ∀ p3, H3 p3 = none → (∃ xs, SqL K (upd H3 p3 (.lst (([.str "following", .str "sharing"] : List V).take m))) p3 xs) ∧ pK [(p3, ([.str "following", .str "sharing"] : List V).take m)] T H0 a0 CW CT CM i 0 s12 [some (.ref a0), k, some (.ref l), some (.ref x), some (.ref g), some (.ref o), some (.ref a), some (.ref mk), some (.int ((i : Int) + 1)), some (.int (i : Int)), s10, s11, s12, s13] (upd H3 p3 (.lst (([.str "following", .str "sharing"] : List V).take m))) := fun m hm p3 hp3 =>
    ⟨⟨_, SqL.of upd_same⟩, k, l, x, g, o, a, mk, s10, s11, s13, Ht, v, t, p, rfl, e0, F3.keep hp3, R, ma, fun n hn => by rw [if_pos (by decide)]; exact lb n hn⟩
  have h012 : d = 0 ∨ d = 1 ∨ d = 2 := by omega
  rcases h012 with rfl | rfl | rfl
  · refine ⟨p2, _, 0, .int 0, rfl, rfl, SqL.of h23, rfl, 0, rfl, p1, _, rfl, SqL.of h13, fun p3 hp3 => ?_⟩
    rw [show cutV [.str "following", .str "sharing"] none (some (0 : Int)) = ([.str "following", .str "sharing"] : List V).take 0 from cutP (n := 0) (by decide)]
    obtain ⟨e1, e2⟩ := fin 0 (by decide) p3 hp3
    exact ⟨p3, rfl, e1, loopK hq hi (by decide) e2 q⟩
  · refine ⟨p2, _, 1, .int 2, rfl, rfl, SqL.of h23, rfl, 2, rfl, p1, _, rfl, SqL.of h13, fun p3 hp3 => ?_⟩
    rw [show cutV [.str "following", .str "sharing"] none (some (2 : Int)) = ([.str "following", .str "sharing"] : List V).take 2 from cutP (n := 2) (by decide)]
    obtain ⟨e1, e2⟩ := fin 2 (by decide) p3 hp3
    exact ⟨p3, rfl, e1, loopK hq hi (by decide) e2 q⟩
  · refine ⟨p2, _, 2, .int 1, rfl, rfl, SqL.of h23, rfl, 1, rfl, p1, _, rfl, SqL.of h13, fun p3 hp3 => ?_⟩
    rw [show cutV [.str "following", .str "sharing"] none (some (1 : Int)) = ([.str "following", .str "sharing"] : List V).take 1 from cutP (n := 1) (by decide)]
    obtain ⟨e1, e2⟩ := fin 1 (by decide) p3 hp3
    exact ⟨p3, rfl, e1, loopK hq hi (by decide) e2 q⟩
/-- the chain: after it there are d + 1 namespaces -/
theorem hT6 (B' : Bi mg) (D : Lw P w K mg base T CW CT CM CR CN) (hr : Room 14 (XLw P w K mg base f cdv A outer s H0 E).A) : Ho (XLw P w K mg base f cdv A outer s H0 E) (stT 6) (pL T H0 a0 CW CT CM 0) (fun σ H => ∃ d : Nat, d ≤ 4 ∧ TB T H0 a0 CW CT CM (d + 1) 22 100 (some (.int (d : Int))) σ H) := by
  obtain ⟨u, hu, hq⟩ := HoF.cons (hA0 (a0 := a0) D hr) (HoF.cons (hA1 D hr) (hA24 D hr (HoF.cons (hA5 D hr) HoF.nil)))
  refine ⟨_, ps_for PassesOwn.never rfl (pi_range1 (by rfl) B'.range (pa_cons (pe_cl D.dig hr (by decide) (by rfl) pass0 (pa_cons (pv 2) (pa_cons pe_int pa_nil))) pa_nil)) (pg_name (i := 9) scLw.nd rfl (Or.inl rfl)) hu, ?_⟩
  rintro D0 σ H ⟨s9, s10, s11, k, l, x, g, o, a, mk, s12, s13, Ht, v, t, p, rfl, e0, F, R, ma, lb⟩ q
  obtain ⟨st, hl, ok⟩ := F.st
  refine ⟨_, rfl, l, st, 5, rfl, hl, ok, by decide, by decide, fun d st' H1 hd ok' hl' b' => ?_⟩
  have F1 := F.but b' hl' ok'
  refine ⟨d, rfl, by omega, by omega, for_it walk_range (fun j σ H => pL T H0 a0 CW CT CM j σ H) ⟨s9, s10, s11, k, l, x, g, o, a, mk, s12, s13, Ht, v, t, p, rfl, e0, F1, R, ma, lb⟩ (fun _ _ _ _ _ => True.intro) ?_ ?_⟩
  · rintro j y σ H2 H3 hj ⟨s9, s10, s11, k, l, x, g, o, a, mk, s12, s13, Ht, v, t, p, rfl, e0, F, R, ma, lb⟩ ⟨rfl, rfl⟩
    have e : ((0 : Int) + (j : Nat)) = (j : Nat) := Int.zero_add _
    show u _ [some (.ref a0), k, some (.ref l), some (.ref x), some (.ref g), some (.ref o), some (.ref a), some (.ref mk), some (.int (j : Int)), some (.int (0 + (j : Nat))), s10, s11, s12, s13] _
    rw [e]
    have hj4 : j ≤ 4 := by
      have : j < (d : Int).toNat := hj
      omega
    refine hq j _ _ _ ⟨hj4, s10, s11, k, l, x, g, o, a, mk, s12, s13, Ht, v, t, p, rfl, e0, F, R, ma, lb⟩ fun σ' H' h => ?_
    obtain ⟨s10, s11, k, l, x, g, o, a, mk, s12, s13, Ht, v, t, p, rfl, e0, F, R, ma, lb⟩ := h
    refine ⟨_, s10, s11, k, l, x, g, o, a, mk, s12, s13, Ht, v, t, p, by rw [Int.natCast_succ], e0, F, R, ma, fun n hn => ?_⟩
    have := lb n hn
    omega
  · rintro σ H2 ⟨s9, s10, s11, k, l, x, g, o, a, mk, s12, s13, Ht, v, t, p, rfl, e0, F, R, ma, lb⟩
    have hd4 : (d : Int).toNat ≤ 4 := by omega
    refine q _ _ ⟨(d : Int).toNat, hd4, k, l, x, g, o, a, mk, s9, s10, s11, s12, s13, Ht, v, t, [], p, rfl, e0, F.up (by omega), R, ma, fun n hn => ?_⟩
    have := lb n hn
    omega
end
end Rp
set_option Elab.async false
set_option linter.all false
set_option autoImplicit false
set_option maxRecDepth 100000
set_option maxHeartbeats 8000000
/-! law: kinds made, one by one -/
namespace Rp
open PySem PySem.Spec PyProof.Rows L2 Cm Ob Tx LamX
section
variable {P : Program} {w : World} {K : PySem.W.Frag} {mg : Str → Option Value} {base : Heap} {f : Addr} {cdv : Value} {A : Around} {outer : List Env} {s : Shared} {H0 : Hp} {E : XK} {a0 CW CT CM CR CN : Addr} {ns : List Int} {T : List (Addr × Str)}
/-- the state in the turn j; r what is told of the slots kind and one, of the marks and of what the dict of marks holds -/
def pM (T : List (Addr × Str)) (H0 : Hp) (a0 CW CT CM : Addr) (r : Nat → Option V → Option V → List Int → List Int → Prop) (q : Nat) (B : Int) (j : Nat) : L2.St → Hp → Prop := fun σ H => ∃ d : Nat, d ≤ 4 ∧ ∃ k l x g o a mk s10 s11 s12 s13 Ht v t ml ml' p, σ = [some (.ref a0), k, some (.ref l), some (.ref x), some (.ref g), some (.ref o), some (.ref a), some (.ref mk), some (.int (d : Int)), some (.int (j : Int)), s10, s11, s12, s13] ∧ r d s12 s13 ml ml' ∧ ExtN H0 Ht ∧ Fx [] Ht T CW CT CM H x g o a mk l (d + 1) (d + 1) q v t ml' ∧ Rv p (rng (d + 1)) v t.vw ∧ (∀ k ∈ rng (d + 1), (t.mn k).ma = decide (k ∈ ml)) ∧ ∀ n ∈ v.gm, n < B
def r0 : Nat → Option V → Option V → List Int → List Int → Prop := fun _ _ _ ml ml' => ml' = ml
def r1 : Nat → Option V → Option V → List Int → List Int → Prop := fun d _ s13 ml ml' => ml' = ml ∧ ∃ n, n ∈ rng (d + 1) ∧ s13 = some (.int n)
def r2 : Nat → Option V → Option V → List Int → List Int → Prop := fun d s12 s13 ml ml' => ml' = ml ∧ ∃ n kind, n ∈ rng (d + 1) ∧ s13 = some (.int n) ∧ kind ∈ kinds4 ∧ s12 = some (.str kind)
def r3 : Nat → Option V → Option V → List Int → List Int → Prop := fun d s12 s13 ml ml' => ∃ n kind ml0, ml = mkMl ml0 n kind ∧ ml' = ml0 ∧ n ∈ rng (d + 1) ∧ s13 = some (.int n) ∧ kind ∈ kinds4 ∧ s12 = some (.str kind)
def r4 : Nat → Option V → Option V → List Int → List Int → Prop := fun d s12 s13 ml ml' => ∃ n kind ml0, ml = mkMl ml0 n kind ∧ ml' = (if kind = "following" then ml0 else del ml0 n) ∧ n ∈ rng (d + 1) ∧ s13 = some (.int n) ∧ kind ∈ kinds4 ∧ s12 = some (.str kind)
theorem hB0 (D : Lw P w K mg base T CW CT CM CR CN) (hr : Room 14 (XLw P w K mg base f cdv A outer s H0 E).A) : ∃ t, PS (XLw P w K mg base f cdv A outer s H0 E) (stB 0) t ∧ ∀ (j : Nat) (D : Ends) σ H, pM T H0 a0 CW CT CM r0 (22 + 3 * j) (100 + j) j σ H → (∀ σ' H', pM T H0 a0 CW CT CM r1 (22 + 3 * j) (100 + j) j σ' H' → D.nx σ' H') → t D σ H := by
  refine ⟨_, ps_set (i := 13) scLw.nd rfl (.inl rfl) (pe_cl D.dig hr (by decide) (by rfl) pass0 (pa_cons (pv 2) (pa_cons (pe_op op_add (pv 8) pe_int) pa_nil))), ?_⟩
  rintro j D0 σ H ⟨d, hd4, k, l, x, g, o, a, mk, s10, s11, s12, s13, Ht, v, t, ml, ml', p, rfl, hr, e0, F, R, ma, lb⟩ q
  obtain ⟨st, hl, ok⟩ := F.st
  exact ⟨_, rfl, _, rfl, (d : Int), 1, rfl, rfl, l, st, (d : Int) + 1, rfl, hl, ok, by omega, by omega, fun n st' H' hn ok' hl' b' => q _ _ ⟨d, hd4, k, l, x, g, o, a, mk, s10, s11, s12, _, Ht, v, t, ml, ml', p, rfl, ⟨hr, n, mem_rng.mpr ⟨by omega, by omega⟩, rfl⟩, e0, F.but b' hl' ok', R, ma, lb⟩⟩
theorem hB1 (D : Lw P w K mg base T CW CT CM CR CN) (hr : Room 14 (XLw P w K mg base f cdv A outer s H0 E).A) : ∃ t, PS (XLw P w K mg base f cdv A outer s H0 E) (stB 1) t ∧ ∀ (j : Nat) (D : Ends) σ H, pM T H0 a0 CW CT CM r1 (22 + 3 * j) (100 + j) j σ H → (∀ σ' H', pM T H0 a0 CW CT CM r2 (22 + 3 * j) (100 + j) j σ' H' → D.nx σ' H') → t D σ H := by
  refine ⟨_, ps_set (i := 12) scLw.nd rfl (.inl rfl) (pe_ix ix_list (pe_lst (pa_cons pe_str (pa_cons pe_str (pa_cons pe_str (pa_cons pe_str pa_nil))))) (pe_cl D.dig hr (by decide) (by rfl) pass0 (pa_cons (pv 2) (pa_cons pe_int pa_nil))) (fun _ _ => rfl)), ?_⟩
  rintro j D0 σ H ⟨d, hd4, k, l, x, g, o, a, mk, s10, s11, s12, s13, Ht, v, t, ml, ml', p, rfl, ⟨hr, n, hn, rfl⟩, e0, F, R, ma, lb⟩ q
  refine ⟨by show 4 ≤ sizeLine; decide, fun p1 hp1 => ?_⟩
  have F1 := F.keep (vs := [.str "alone", .str "following", .str "sharing", .str "unbindable"]) hp1
  obtain ⟨st, hl, ok⟩ := F1.st
  refine ⟨_, rfl, l, st, 4, rfl, hl, ok, by decide, by decide, fun c st' H' hc ok' hl' b' => ?_⟩
  have F2 := F1.but b' hl' ok'
  have h2 := (F2.kl _ List.mem_cons_self).1
  have fin : ∀ kind, kind ∈ kinds4 → D0.nx [some (.ref a0), k, some (.ref l), some (.ref x), some (.ref g), some (.ref o), some (.ref a), some (.ref mk), some (.int (d : Int)), some (.int (j : Int)), s10, s11, some (.str kind), some (.int n)] H' := fun kind hk => q _ _ ⟨d, hd4, k, l, x, g, o, a, mk, s10, s11, _, _, Ht, v, t, ml, ml', p, rfl, ⟨hr, n, kind, hn, rfl, hk, rfl⟩, e0, F2.drop, R, ma, lb⟩
  have h4 : c = 0 ∨ c = 1 ∨ c = 2 ∨ c = 3 := by omega
  rcases h4 with rfl | rfl | rfl | rfl
  · exact ⟨p1, _, 0, .str "alone", rfl, rfl, SqL.of h2, rfl, fin _ (by decide)⟩
  · exact ⟨p1, _, 1, .str "following", rfl, rfl, SqL.of h2, rfl, fin _ (by decide)⟩
  · exact ⟨p1, _, 2, .str "sharing", rfl, rfl, SqL.of h2, rfl, fin _ (by decide)⟩
  · exact ⟨p1, _, 3, .str "unbindable", rfl, rfl, SqL.of h2, rfl, fin _ (by decide)⟩
theorem kind_or {kind : Str} (hk : kind ∈ kinds4) : kind = "sharing" ∨ kind = "following" ∨ kind = "alone" ∨ kind = "unbindable" := by
  unfold kinds4 at hk
  simpa using hk
theorem hB23 (D : Lw P w K mg base T CW CT CM CR CN) (hr : Room 14 (XLw P w K mg base f cdv A outer s H0 E).A) {rest : List Stmt} {r : Nat → L2.St → Hp → Prop} (R : HoF (XLw P w K mg base f cdv A outer s H0 E) rest (fun j σ H => j ≤ 11 ∧ pM T H0 a0 CW CT CM r3 (24 + 3 * j) (101 + j) j σ H) r) :
    HoF (XLw P w K mg base f cdv A outer s H0 E) (stB 2 :: stB 3 :: rest) (fun j σ H => j ≤ 11 ∧ pM T H0 a0 CW CT CM r2 (22 + 3 * j) (100 + j) j σ H) r := by
  obtain ⟨u0, hu0, hR⟩ := R
  obtain ⟨fD, fdD, mD, FD, bD⟩ := D.doW
  refine ⟨_, pss_cons (ps_expr (pe_meth (pv 3) D.cW.cl mD FD (hr.mono (by decide)) bD .nil pass0 (pa_cons (pe_tup (pa_cons pe_str (pa_cons (pv 13) (pa_cons pe_str (pa_cons (pv 12) pa_nil))))) pa_nil)))
    (pss_cons (ps_expr (pe_cl D.made hr (by decide) (by rfl) pass0 (pa_cons (pv 4) (pa_cons (pv 5) (pa_cons (pv 6) (pa_cons (pv 13) (pa_cons (pv 12) (pa_cons (pe_op op_add pe_int (pv 9)) pa_nil)))))))) hu0), ?_⟩
  rintro j D0 σ H ⟨hj, d, hd4, k, l, x, g, o, a, mk, s10, s11, s12, s13, Ht, v, t, ml, ml', p, rfl, ⟨rfl, n, kind, hn, rfl, hk, rfl⟩, e0, F, R, ma, lb⟩ q
  have hL : 100 + (j : Int) ∉ v.gm := fun z => Int.lt_irrefl _ (lb _ z)
  have ok := lok_of F.w28 R F.nd F.gl (by omega)
  obtain ⟨dx, fi, l1, l2, ds, dd, rt, W, O, n1, n2, n3, dl⟩ := F.ex
  refine ⟨_, rfl, x, dx, _, rfl, W.hx, rfl, _, rfl, _, rfl, by show 4 ≤ sizeLine; decide, fun de hde => ?_⟩
  have F1 := F.same (same_new (o := HO.tup [.str "make", .int n, .str "/", .str kind]) hde)
  refine F1.doMake (by omega) (by omega) hn hk upd_same fun H2 F2 => ?_
  refine ⟨_, rfl, _, rfl, _, rfl, _, rfl, _, rfl, _, rfl, 100, (j : Int), rfl, rfl, ?_⟩
  dsimp only [tNil, List.cons_append, List.nil_append]
  refine F2.madeStep (by omega) ok hn hL hk fun H3 F3 => ?_
  obtain ⟨p', R'⟩ := step_R F.w28 R ok hn kind hL
  refine hR j D0 _ _ ⟨hj, d, hd4, k, l, x, g, o, a, mk, s10, s11, _, _, Ht, _, _, _, _, p', rfl, ⟨n, kind, ml', rfl, rfl, hn, rfl, hk, rfl⟩, e0, F3.up (by omega), R', step_ma F.w28 ma hn kind (kind_or hk), fun n' hn' => ?_⟩ q
  have := make_lb (kn := rng (d + 1)) (n := n) (L := 100 + (j : Int)) (kind := kind) lb n' hn'
  split at this <;> omega
theorem del_id {l : List Int} {n : Int} (h : n ∉ l) : del l n = l := List.filter_eq_self.mpr fun k hk => decide_eq_true fun z => h (by rw [← z]; exact hk)
theorem hB4 : ∃ t, PS (XLw P w K mg base f cdv A outer s H0 E) (stB 4) t ∧ ∀ (j : Nat) (D : Ends) σ H, (j ≤ 11 ∧ pM T H0 a0 CW CT CM r3 (24 + 3 * j) (101 + j) j σ H) → (∀ σ' H', (j ≤ 11 ∧ pM T H0 a0 CW CT CM r4 (24 + 3 * j) (101 + j) j σ' H') → D.nx σ' H') → t D σ H := by
  refine ⟨_, ps_if (pt_cmpR op_ne (pv 12) pe_str (nomark _)) (pss_one (ps_expr (pe_dpop2 (pv 7) (pv 13) pe_non ⟨rfl, rfl, rfl, rfl⟩))) pss_nil, ?_⟩
  rintro j D0 σ H ⟨hj, d, hd4, k, l, x, g, o, a, mk, s10, s11, s12, s13, Ht, v, t, ml, ml', p, rfl, ⟨n, kind, ml0, rfl, rfl, hn, rfl, hk, rfl⟩, e0, F, R, ma, lb⟩ q
  refine ⟨_, rfl, rfl, _, rfl, ?_⟩
  by_cases e : kind = "following"
  · rw [show decide (V.str kind = V.str "following") = true from decide_eq_true (by rw [e])]
    refine iteF (q _ _ ⟨hj, d, hd4, k, l, x, g, o, a, mk, s10, s11, _, _, Ht, v, t, _, _, p, rfl, ⟨n, kind, ml', rfl, by rw [if_pos e], hn, rfl, hk, rfl⟩, e0, F, R, ma, lb⟩)
  · rw [show decide (V.str kind = V.str "following") = false from decide_eq_false (fun z => e (V.str.inj z))]
    have fin : ∀ H', H' = upd H mk (set1 (del ml' n)) → D0.nx [some (.ref a0), k, some (.ref l), some (.ref x), some (.ref g), some (.ref o), some (.ref a), some (.ref mk), some (.int (d : Int)), some (.int (j : Int)), s10, s11, some (.str kind), some (.int n)] H' := fun H' eH => by
      rw [eH]
      exact q _ _ ⟨hj, d, hd4, k, l, x, g, o, a, mk, s10, s11, _, _, Ht, v, t, _, _, p, rfl, ⟨n, kind, ml', rfl, by rw [if_neg e], hn, rfl, hk, rfl⟩, e0, F.mark (Nat.le_trans (del_len _ _) F.mq), R, ma, lb⟩
    refine iteT ⟨_, rfl, mk, rfl, .inl ⟨_, .inl F.hm⟩, _, rfl, _, Sum.inl n, F.hm, rfl, fun vv hv => ?_, fun hv => ?_⟩
    · exact fin _ (by rw [drop_set])
    · have hnm : n ∉ ml' := fun z => by
        rw [val_dk z] at hv
        cases hv
      refine fin _ ?_
      rw [del_id hnm]
      funext b
      by_cases eb : b = mk
      · rw [eb, upd_same]
        exact F.hm
      · rw [upd_ne eb]
theorem hB5 (hr : Room 14 (XLw P w K mg base f cdv A outer s H0 E).A) : ∃ t, PS (XLw P w K mg base f cdv A outer s H0 E) (stB 5) t ∧ ∀ (j : Nat) (D : Ends) σ H, (j ≤ 11 ∧ pM T H0 a0 CW CT CM r4 (24 + 3 * j) (101 + j) j σ H) → (∀ σ' H', (j ≤ 11 ∧ pM T H0 a0 CW CT CM r0 (25 + 3 * j) (101 + j) j σ' H') → D.nx σ' H') → t D σ H := by
  have hu := units1 (hr.mono (by decide : 1 ≤ 14))
  refine ⟨_, ps_if (pt_cmpR op_eq (pv 12) pe_str (nomark _)) (pss_one (ps_dput hu (pv 7) (pv 13) pe_bl rfl)) pss_nil, ?_⟩
  rintro j D0 σ H ⟨hj, d, hd4, k, l, x, g, o, a, mk, s10, s11, s12, s13, Ht, v, t, ml, ml', p, rfl, ⟨n, kind, ml0, rfl, rfl, hn, rfl, hk, rfl⟩, e0, F, R, ma, lb⟩ q
  refine ⟨_, rfl, rfl, _, rfl, ?_⟩
  have bl : (if kind = "following" then ml0 else del ml0 n).length ≤ 24 + 3 * j := F.mq
  by_cases e : kind = "unbindable"
  · rw [show decide (V.str kind = V.str "unbindable") = true from decide_eq_true (by rw [e])]
    refine iteT ⟨_, rfl, _, rfl, mk, _, rfl, DPut.k (k := (Sum.inl n : Key)) F.hm (sz5 (by rw [dk_len]; omega)), ?_⟩
    have hml : mkMl ml0 n kind = addK (if kind = "following" then ml0 else del ml0 n) n := by
      unfold mkMl
      rw [if_pos e]
    have F' := (F.up (Nat.le_succ _)).mark (ml' := addK (if kind = "following" then ml0 else del ml0 n) n) (Nat.le_trans (addK_len _ _) (Nat.succ_le_succ bl))
    rw [← put_set] at F'
    exact q _ _ ⟨hj, d, hd4, k, l, x, g, o, a, mk, s10, s11, _, _, Ht, v, t, _, _, p, rfl, hml.symm, e0, F'.up (by omega), R, ma, lb⟩
  · rw [show decide (V.str kind = V.str "unbindable") = false from decide_eq_false (fun z => e (V.str.inj z))]
    have hml : mkMl ml0 n kind = if kind = "following" then ml0 else del ml0 n := by
      unfold mkMl
      rw [if_neg e]
    exact iteF (q _ _ ⟨hj, d, hd4, k, l, x, g, o, a, mk, s10, s11, _, _, Ht, v, t, _, _, p, rfl, hml.symm, e0, F.up (by omega), R, ma, lb⟩)
theorem hB6 (D : Lw P w K mg base T CW CT CM CR CN) (hr : Room 14 (XLw P w K mg base f cdv A outer s H0 E).A) : ∃ t, PS (XLw P w K mg base f cdv A outer s H0 E) (stB 6) t ∧ ∀ (j : Nat) (D : Ends) σ H, (j ≤ 11 ∧ pM T H0 a0 CW CT CM r0 (25 + 3 * j) (101 + j) j σ H) → (∀ σ' H', (j ≤ 11 ∧ pM T H0 a0 CW CT CM r0 (25 + 3 * j) (101 + j) j σ' H') → D.nx σ' H') → t D σ H := by
  refine ⟨_, ps_if (pt_not (pt_val (pe_cl D.right hr (by decide) (by rfl) pass0 (pa_cons (pv 3) (pa_cons (pv 4) (pa_cons (pv 5) (pa_cons (pv 6) (pa_cons (pv 7) pa_nil)))))))) (pss_one (ps_ret pe_bl)) pss_nil, ?_⟩
  rintro j D0 σ H ⟨hj, d, hd4, k, l, x, g, o, a, mk, s10, s11, s12, s13, Ht, v, t, ml, ml', p, rfl, hr0, e0, F, R, ma, lb⟩ q
  have hr0 : ml' = ml := hr0
  subst hr0
  have ok := lok_of F.w28 R F.nd F.gl (by omega)
  obtain ⟨dx, fi, l1, l2, ds, dd, rt, W, O, n1, n2, n3, dl⟩ := F.ex
  exact ⟨_, rfl, _, rfl, _, rfl, _, rfl, _, rfl, x, dx, fi, l1, l2, ds, dd, t, rt, g, o, a, mk, ml', d + 1, 25 + 3 * j, v, p, rfl, W, F.w28, R, ok, by omega, F.L, F.hm, F.ng, O.1, ma, fun H' sm => ⟨_, rfl, iteF (q _ _ ⟨hj, d, hd4, k, l, x, g, o, a, mk, s10, s11, s12, s13, Ht, v, t, ml', ml', p, rfl, rfl, e0, F.same sm, R, ma, lb⟩)⟩⟩
theorem hT7 (B' : Bi mg) (D : Lw P w K mg base T CW CT CM CR CN) (hr : Room 14 (XLw P w K mg base f cdv A outer s H0 E).A) : Ho (XLw P w K mg base f cdv A outer s H0 E) (stT 7) (fun σ H => ∃ d : Nat, d ≤ 4 ∧ TB T H0 a0 CW CT CM (d + 1) 22 100 (some (.int (d : Int))) σ H) (TL0 T H0 a0) := by
  obtain ⟨u, hu, hq⟩ : HoF (XLw P w K mg base f cdv A outer s H0 E) (forBody (stT 7)) (fun j σ H => j ≤ 11 ∧ pM T H0 a0 CW CT CM r0 (22 + 3 * j) (100 + j) j σ H) (fun j σ H => j ≤ 11 ∧ pM T H0 a0 CW CT CM r0 (25 + 3 * j) (101 + j) j σ H) := by
    have up : ∀ {st : Stmt} {p q : Nat → L2.St → Hp → Prop}, (∃ t, PS (XLw P w K mg base f cdv A outer s H0 E) st t ∧ ∀ (j : Nat) (D : Ends) σ H, p j σ H → (∀ σ' H', q j σ' H' → D.nx σ' H') → t D σ H) → ∃ t, PS (XLw P w K mg base f cdv A outer s H0 E) st t ∧ ∀ (j : Nat) (D : Ends) σ H, (j ≤ 11 ∧ p j σ H) → (∀ σ' H', (j ≤ 11 ∧ q j σ' H') → D.nx σ' H') → t D σ H := fun ⟨t, ht, h⟩ => ⟨t, ht, fun j D σ H hp hq => h j D σ H hp.2 fun σ' H' z => hq σ' H' ⟨hp.1, z⟩⟩
    exact HoF.cons (up (hB0 D hr)) (HoF.cons (up (hB1 D hr)) (hB23 D hr (HoF.cons hB4 (HoF.cons (hB5 hr) (HoF.cons (hB6 D hr) HoF.nil)))))
  refine ⟨_, ps_for PassesOwn.never rfl (pi_range1 (by rfl) B'.range (pa_cons pe_int pa_nil)) (pg_name (i := 9) scLw.nd rfl (Or.inl rfl)) hu, ?_⟩
  rintro D0 σ H ⟨d, hd4, k, l, x, g, o, a, mk, s9, s10, s11, s12, s13, Ht, v, t, ml, p, rfl, e0, F, R, ma, lb⟩ q
  refine ⟨12, rfl, by decide, by decide, for_it walk_range (fun j σ H => ∃ d : Nat, d ≤ 4 ∧ ∃ k l x g o a mk s9 s10 s11 s12 s13 Ht v t ml p, σ = [some (.ref a0), k, some (.ref l), some (.ref x), some (.ref g), some (.ref o), some (.ref a), some (.ref mk), some (.int (d : Int)), s9, s10, s11, s12, s13] ∧ ExtN H0 Ht ∧ Fx [] Ht T CW CT CM H x g o a mk l (d + 1) (d + 1) (22 + 3 * j) v t ml ∧ Rv p (rng (d + 1)) v t.vw ∧ (∀ k ∈ rng (d + 1), (t.mn k).ma = decide (k ∈ ml)) ∧ ∀ n ∈ v.gm, n < 100 + (j : Int)) ⟨d, hd4, k, l, x, g, o, a, mk, s9, s10, s11, s12, s13, Ht, v, t, ml, p, rfl, e0, F, R, ma, lb⟩ (fun _ _ _ _ _ => True.intro) ?_ ?_⟩
  · rintro j y σ H2 H3 hj ⟨d, hd4, k, l, x, g, o, a, mk, s9, s10, s11, s12, s13, Ht, v, t, ml, p, rfl, e0, F, R, ma, lb⟩ ⟨rfl, rfl⟩
    have e : ((0 : Int) + (j : Nat)) = (j : Nat) := Int.zero_add _
    show u _ [some (.ref a0), k, some (.ref l), some (.ref x), some (.ref g), some (.ref o), some (.ref a), some (.ref mk), some (.int (d : Int)), some (.int (0 + (j : Nat))), s10, s11, s12, s13] _
    rw [e]
    have hj11 : j ≤ 11 := by
      have : j < (12 : Int).toNat := hj
      have e12 : (12 : Int).toNat = 12 := rfl
      omega
    refine hq j _ _ _ ⟨hj11, d, hd4, k, l, x, g, o, a, mk, s10, s11, s12, s13, Ht, v, t, ml, ml, p, rfl, rfl, e0, F, R, ma, lb⟩ fun σ' H' h => ?_
    obtain ⟨_, d, hd4, k, l, x, g, o, a, mk, s10, s11, s12, s13, Ht, v, t, ml, ml', p, rfl, hr0, e0, F, R, ma, lb⟩ := h
    have hr0 : ml' = ml := hr0
    subst hr0
    refine ⟨d, hd4, k, l, x, g, o, a, mk, _, s10, s11, s12, s13, Ht, v, t, ml', p, rfl, e0, F.up (by omega), R, ma, fun n hn => ?_⟩
    have := lb n hn
    omega
  · rintro σ H2 ⟨d, hd4, k, l, x, g, o, a, mk, s9, s10, s11, s12, s13, Ht, v, t, ml, p, rfl, e0, F, R, ma, lb⟩
    exact q _ _ ⟨k, _, _, _, _, _, _, _, s9, s10, s11, s12, s13, rfl, e0.trans F.e0, F.tb⟩
end
section
variable {P : Program} {w : World} {K : PySem.W.Frag} {mg : Str → Option Value} {base : Heap} {f : Addr} {fd : FuncData} {CW CT CM CR CN : Addr} {T : List (Addr × Str)}
def spLaw (K : PySem.W.Frag) (T : List (Addr × Str)) : Sp := fun vs H Q _ => ∃ (a : Addr) (ns : List Int), vs = [.ref a] ∧ SqL K H a (ns.map V.int) ∧ ns.length ≤ 63 ∧ Tabs T H ∧ ∀ H', Q (.bl true) H'
theorem ok_law (F : Fun K "law" "law" sLaw f fd) (B' : Bi mg) (hmax : mg "max" = none) (hmin : mg "min" = none) (D : Lw P w K mg base T CW CT CM CR CN) : FnOk P w K mg base CX0 15 f fd ["_law_script"] (spLaw K T) := by
  refine F.ok scLw (fun vs H Q E h => ?_) (fun cdv A outer s H vs Q E hr h => ?_)
  · obtain ⟨x, ns, rfl, _⟩ := h
    rfl
  · obtain ⟨a, ns, rfl, hS, hlen, tb0, q⟩ := h
    have hr' : Room 14 (XLw P w K mg base f cdv A outer s H E).A := hr
    obtain ⟨tb, hb, rb⟩ := HoS.cons (hT0 (a0 := a) D hr' hS) (HoS.cons (hT1 D hr') (HoS.cons hT2 (HoS.cons hT3 (hT45 D hr' (HoS.cons (hT6 B' D hr') (HoS.cons (hT7 B' D hr') HoS.nil))))))
    refine ⟨_, pss_cons (ps_for PassesOwn.never rfl (pi_range1 (by rfl) B'.range (pa_cons (pe_callB (call_max2 rfl) (by rfl) hmax (by decide +kernel) (pa_cons pe_int (pa_cons (pe_callB (call_min2 rfl) (by rfl) hmin (by decide +kernel) (pa_cons pe_int (pa_cons (pe_callB call_len_seq (by rfl) B'.len PySem.boot_len (pa_cons (pv 0) pa_nil)) pa_nil))) pa_nil))) pa_nil)) (pg_name (i := 1) scLw.nd rfl (Or.inl rfl)) hb) (pss_one (ps_ret pe_bl)), ?_⟩
    refine ⟨_, rfl, a, _, rfl, .inl hS, _, _, rfl, _, _, rfl, _, rfl, ?_, ?_, for_it walk_range (fun i σ H2 => TL0 T H a σ H2) ⟨_, _, _, _, _, _, _, _, _, _, _, _, _, rfl, fun b o hb _ => hb, tb0⟩ (fun _ _ _ _ _ => True.intro) ?_ (fun σ H2 h => q H2)⟩
    · split <;> split <;> omega
    · split <;> split <;> omega
    · rintro i y σ H2 H3 hi ⟨k, s2, s3, s4, s5, s6, s7, s8, s9, s10, s11, s12, s13, rfl, e0, tb2⟩ ⟨rfl, rfl⟩
      have e : ((0 : Int) + (i : Nat)) = (i : Nat) := Int.zero_add _
      show tb _ [some (.ref a), some (.int (0 + (i : Nat))), s2, s3, s4, s5, s6, s7, s8, s9, s10, s11, s12, s13] _
      rw [e]
      exact rb _ _ _ ⟨i, _, _, _, _, _, _, _, _, _, _, _, _, rfl, e0, tb2⟩ fun σ' H' h => h
end
end Rp
set_option autoImplicit true
set_option Elab.async false
set_option linter.all false
set_option maxRecDepth 100000
set_option maxHeartbeats 2000000
/-! a Hook that looks at few objects, by their names, and at the tables of the code objects of some defs -/
namespace Hk
open PySem PySem.Spec PyProof.Rows L2 He
abbrev Get : Type := Addr → Option Obj
/-- the names whose objects are looked at -/
structure Few where
  cls : List Str
  fns : List Str
  oth : List Str
  mts : List (Str × Str)
  tbs : List Str
def nsA (g : Get) (C : Addr) : Addr := match g C with
  | some ⟨_, _, .cls cd, _⟩ => cd.ns
  | _ => 0
def inD (g : Get) (d : Addr) (x : Str) : Addr := match g d with
  | some ⟨_, _, .dict es _, _⟩ => (match es.toList.find? (·.key.isStr x) with
    | some e => (match e.val with | .ref a => a | _ => 0)
    | none => 0)
  | _ => 0
def cdA (g : Get) (f : Addr) : List Addr := match g f with
  | some ⟨_, _, .func fd, _⟩ => refV fd.code ++ refV fd.defaults
  | _ => []
def subA (g : Get) (a : Addr) : List Addr := match g a with
  | some ⟨_, _, .dict es _, _⟩ => es.toList.flatMap fun e => refV e.val
  | _ => []
def asF (g : Get) (F : Few) : List Addr :=
  let cs := F.cls.map (inD g mainGlobals)
  let fs := F.fns.map (inD g mainGlobals) ++ F.mts.map (fun p => inD g (nsA g (inD g mainGlobals p.1)) p.2)
  let os := F.oth.map (inD g mainGlobals)
  mainGlobals :: (cs ++ (cs.map (nsA g) ++ (fs ++ (fs.flatMap (cdA g) ++ (os ++ os.flatMap (subA g))))))
/-! ### tables -/
def fnCode (K : PySem.W.Frag) (f : Addr) : Addr := match K.lookup f with
  | some ⟨_, _, .func fd, _⟩ => (match fd.code with | .ref c => c | _ => 0)
  | _ => 0
def codeTab (K : PySem.W.Frag) (c : Addr) : Addr := match K.lookup c with
  | some ⟨_, _, .fields vs, _⟩ => (match (vs[11]? : Option Value) with | some (.ref P) => P | _ => 0)
  | _ => 0
def tC (K : PySem.W.Frag) (nm : Str) : Addr := fnCode K (ga K nm)
def tP (K : PySem.W.Frag) (nm : Str) : Addr := codeTab K (tC K nm)
def isTab (g : Get) (P : Addr) : Bool := match g P with
  | some o => emptyTab o
  | none => false
def tabB (g : Get) (K : PySem.W.Frag) (nm : Str) : Bool := isTab g (tP K nm) && (PySem.W.codeHdIn K (tC K nm) (tP K nm) && (K.lookup (tP K nm)).isNone)
structure TabOk (h : Heap) (K : PySem.W.Frag) (nm : Str) : Prop where
  tab : h.get? (tP K nm) = some { cls := .none, data := .fields #[] }
  hd : PySem.W.codeHdIn K (tC K nm) (tP K nm) = true
  no : K.lookup (tP K nm) = none
theorem tabB_ok {s : Shared} {K : PySem.W.Frag} {nm : Str} (h : tabB s.heap.get? K nm = true) : TabOk s.heap K nm := by
  obtain ⟨h1, h2⟩ := ba h
  obtain ⟨h2, h3⟩ := ba h2
  refine ⟨?_, h2, Option.isNone_iff_eq_none.mp h3⟩
  unfold isTab at h1
  cases e : s.heap.get? (tP K nm) with
  | none =>
    rw [e] at h1
    cases h1
  | some o =>
    rw [e] at h1
    rw [emptyTab_eq h1]
abbrev Al : Type := AlT × (Bool × Bool)
def obs (F : Few) (fa : List Fa) (fn : List DefD) (ts : List Tab) (ex : PySem.W.Frag → Bool) (g : Get) : Al := (obsT fa fn ts (frG g (asF g F)), (ex (frG g (asF g F)), F.tbs.all fun nm => tabB g (frG g (asF g F)) nm))
def val (fn : List DefD) (ts : List Tab) (w : World) : Al := (valT fn ts w, (true, true))
structure Says (fa : List Fa) (fn : List DefD) (ts : List Tab) (ex : PySem.W.Frag → Bool) (w : World) (K : PySem.W.Frag) : Prop where
  t : SaysT fa fn ts w K
  more : ex K = true
def hook (F : Few) (fa : List Fa) (fn : List DefD) (ts : List Tab) (ex : PySem.W.Frag → Bool) : PySem.W.Hook where
  α := Al
  obs := fun s => obs F fa fn ts ex s.heap.get?
  val := fun w => val fn ts w
  says := fun w h => ∃ K : PySem.W.Frag, K.In h ∧ Says fa fn ts ex w K ∧ ∀ nm ∈ F.tbs, TabOk h K nm
  of := fun _ s e => ⟨_, frG_in, ⟨congrArg (fun z : Al => z.1) e, congrArg (fun z : Al => z.2.1) e⟩, fun nm hn => tabB_ok (s := s) (List.all_eq_true.mp (congrArg (fun z : Al => z.2.2) e) nm hn)⟩
  keeps := fun _ _ _ ⟨K, hK, c, t⟩ k => ⟨K, PySem.W.Frag.In.keeps hK k, c, fun nm hn => ⟨k _ _ (t nm hn).tab, (t nm hn).hd, (t nm hn).no⟩⟩
theorem obs_eq {F : Few} {fa : List Fa} {fn : List DefD} {ts : List Tab} {ex : PySem.W.Frag → Bool} {g : Get} {s : Shared} (h : ∀ a, g a = s.heap.get? a) : obs F fa fn ts ex g = (hook F fa fn ts ex).obs s := by
  have e : g = s.heap.get? := funext h
  rw [e] <;> rfl
theorem walk_ofTE {l : PySem.W.OpenLaw} {n k : Nat} {q : Program} {loose : List Str} {XP : (Str → Option Value) → Heap → Prop} {YP : World → Heap → Prop} {d : DefRec} {CX : CXT} {x : Str}
    (hn : l.most = some n) (hn2 : n ≤ sizeLine) (hdf : d.params.defaults = []) (hr : Room k callerA)
    (F : ∀ (w : World) (mg : Str → Option Value) (fa : Addr) (h : Heap), YP w h → h.Ns mainGlobals mg → mg d.name = some (.ref fa) →
      ∃ (K : PySem.W.Frag) (cs : List (Addr × Addr)) (fd : FuncData) (sp : Sp), K.In h ∧ (∀ p ∈ cs, h.get? p.2 = some { cls := .none, data := .fields #[] }) ∧ (∀ p ∈ cs, K.lookup p.2 = none) ∧ (∀ p ∈ cs, PySem.W.CodeHd h p.1 p.2) ∧ (∀ (s : Shared) (u : Value), BindsTo s fd ⟨[u], []⟩ [(x, u)]) ∧
        (∀ (H : Hp) (a : Addr) (ns : List Int), ns.length ≤ n → (∀ p ∈ cs, H p.2 = some (.tbl #[])) → SqL K H a (ns.map V.int) → sp [.ref a] H (fun v _ => v = .bl true) fun _ _ _ => False) ∧
        ∀ base : Heap, K.In base → base.Ns mainGlobals mg → (∀ p ∈ cs, LamX.TabB base mg p.1 p.2) → FnOk l.prog w K mg base CX k fa fd [x] sp)
    (hCX : ∀ (H : Hp) (s : Shared) (e : Value) (s' : Shared), CX [] H s (fun _ _ _ => False) e s' → False) :
    PySem.W.WalkO q loose XP YP l.row.toRowW d [] (fun f vs => PySem.call f vs) := by
  refine Att.attach_callB hn hdf fun w s₀ s₁ mg mb fa o pm cd doc a vs ns G Y ho hd hcd hmg hobj hints hlen hbits hg => ?_
  obtain ⟨K, cs, fd, sp, KX, hT, nT, C, hb, hsp, hF⟩ := F w mg fa _ Y G.T.g hmg
  exact LamX.law_callTs KX G.T.g G.T.b G.T.builtins G.T.nolimit hg hT nT C G.T.bmain hobj hints (Nat.le_trans hlen hn2) hr hF hb (fun H hH hS => hsp H a ns hlen hH hS) fun H e s' => hCX H s₁ e s'
/-- a def's own code object -/
theorem fun_ref {K : PySem.W.Frag} {x : Str} {st : Stmt} {f : Addr} {fd : FuncData} (F : Fun K x x st f fd) : ∃ (oc : Value) (od an : Option Addr) (kV dc pm ct : Value) (sl : Array (Option Value)), fd = PySem.W.fnOf x x (defArgs st) (defBody st) (defScope st) .none kV dc pm an (.ref (fnCode K f)) ct ∧ K.lookup f = some ⟨oc, od, .func (PySem.W.fnOf x x (defArgs st) (defBody st) (defScope st) .none kV dc pm an (.ref (fnCode K f)) ct), sl⟩ ∧ PySem.W.codeIn K (.ref (fnCode K f)) x = true := by
  obtain ⟨oc, od, kV, dc, pm, an, cd, ct, sl, e, lk, hcd⟩ := id F.ex
  have ec : ∃ c, cd = .ref c := by
    cases cd with
    | ref c => exact ⟨c, rfl⟩
    | _ => cases hcd
  obtain ⟨c, rfl⟩ := ec
  have ef : fnCode K f = c := by
    unfold fnCode
    rw [lk, e]
  rw [ef]
  rw [e] at lk
  exact ⟨oc, od, an, kV, dc, pm, ct, sl, e, lk, hcd⟩
end Hk
set_option autoImplicit true
set_option Elab.async false
set_option linter.all false
set_option maxRecDepth 100000
set_option maxHeartbeats 0
namespace Hx
open PySem PySem.Spec PyProof.Rows L2 Tx Rp
def ns0 : List Str := ["_wall", "__name__", "nearest", "Spread", "takers", "attach", "MountError", "NoTree", "NoNumber", "NoSpace", "NoMount", "NoDeed", "NoRight", "NotDir", "NotMount", "AtRoot"]
def ns1 : List Str := ["Unbindable", "Locked", "Shared", "Loop", "Busy", "NoPath", "TooMany", "LETTERS", "MOST_NODES", "MOST_DEPTH", "is_whole", "is_name", "is_path", "is_absolute", "parts_of", "node_value"]
def ns2 : List Str := ["Tree", "within", "MOST_LINKS", "Walker", "space_root", "walk_in", "KINDS", "FORMS", "is_entry", "is_deed", "place_in", "mount_in", "do_mount", "source_in", "on_within", "shown_copy"]
def ns3 : List Str := ["do_bind", "bound_with", "do_bind_all", "do_move", "do_make", "do_make_all", "make_one", "do_clone", "sure_unmountable", "do_unmount", "do_unmount_all", "candidates_of", "bearer", "may_go", "taken_away", "make_deed"]
def ns4 : List Str := ["sure_deed", "Mount", "Table", "are_trees", "World", "plain_form", "_law_cell_at", "_law_digit", "_law_due", "_law_ended", "_law_made", "_law_right"]
abbrev loose : List Str := ns0 ++ ns1 ++ ns2 ++ ns3 ++ ns4
def d_is_whole : He.DefD := ⟨("is_whole", none), "is_whole", "is_whole", defArgs sWhole, defBody sWhole, defScope sWhole, [], []⟩
def d_is_name : He.DefD := ⟨("is_name", none), "is_name", "is_name", defArgs sName, defBody sName, defScope sName, [], []⟩
def d_is_path : He.DefD := ⟨("is_path", none), "is_path", "is_path", defArgs sPath, defBody sPath, defScope sPath, [], []⟩
def d_is_absolute : He.DefD := ⟨("is_absolute", none), "is_absolute", "is_absolute", defArgs sAbs, defBody sAbs, defScope sAbs, [], []⟩
def d_parts_of : He.DefD := ⟨("parts_of", none), "parts_of", "parts_of", defArgs sParts, defBody sParts, defScope sParts, [], []⟩
def d_node_value : He.DefD := ⟨("node_value", none), "node_value", "node_value", defArgs sNode, defBody sNode, defScope sNode, [], []⟩
def d_space_root : He.DefD := ⟨("space_root", none), "space_root", "space_root", defArgs sSpaceRoot, defBody sSpaceRoot, defScope sSpaceRoot, [], []⟩
def d_walk_in : He.DefD := ⟨("walk_in", none), "walk_in", "walk_in", defArgs sWalkIn, defBody sWalkIn, defScope sWalkIn, [], []⟩
def d_is_entry : He.DefD := ⟨("is_entry", none), "is_entry", "is_entry", defArgs sEntry, defBody sEntry, defScope sEntry, [], []⟩
def d_is_deed : He.DefD := ⟨("is_deed", none), "is_deed", "is_deed", defArgs sIsDeed, defBody sIsDeed, defScope sIsDeed, [], []⟩
def d_mount_in : He.DefD := ⟨("mount_in", none), "mount_in", "mount_in", defArgs sMountIn, defBody sMountIn, defScope sMountIn, [], []⟩
def d_do_make : He.DefD := ⟨("do_make", none), "do_make", "do_make", defArgs sDoMake, defBody sDoMake, defScope sDoMake, [], []⟩
def d_make_one : He.DefD := ⟨("make_one", none), "make_one", "make_one", defArgs sMakeOne, defBody sMakeOne, defScope sMakeOne, [], []⟩
def d_do_clone : He.DefD := ⟨("do_clone", none), "do_clone", "do_clone", defArgs sDoClone, defBody sDoClone, defScope sDoClone, [], []⟩
def d_make_deed : He.DefD := ⟨("make_deed", none), "make_deed", "make_deed", defArgs sMakeDeed, defBody sMakeDeed, defScope sMakeDeed, [], []⟩
def d_sure_deed : He.DefD := ⟨("sure_deed", none), "sure_deed", "sure_deed", defArgs sSureDeed, defBody sSureDeed, defScope sSureDeed, [], []⟩
def d_are_trees : He.DefD := ⟨("are_trees", none), "are_trees", "are_trees", defArgs sAreTrees, defBody sAreTrees, defScope sAreTrees, [], []⟩
def d__law_cell_at : He.DefD := ⟨("_law_cell_at", none), "_law_cell_at", "_law_cell_at", defArgs sCell, defBody sCell, defScope sCell, [], []⟩
def d__law_digit : He.DefD := ⟨("_law_digit", none), "_law_digit", "_law_digit", defArgs sDigit, defBody sDigit, defScope sDigit, [], []⟩
def d__law_due : He.DefD := ⟨("_law_due", none), "_law_due", "_law_due", defArgs sDue, defBody sDue, defScope sDue, [], []⟩
def d__law_ended : He.DefD := ⟨("_law_ended", none), "_law_ended", "_law_ended", defArgs sEnded, defBody sEnded, defScope sEnded, [], []⟩
def d__law_made : He.DefD := ⟨("_law_made", none), "_law_made", "_law_made", defArgs sMade, defBody sMade, defScope sMade, [], []⟩
def d__law_right : He.DefD := ⟨("_law_right", none), "_law_right", "_law_right", defArgs sRight, defBody sRight, defScope sRight, [], []⟩
def d_law : He.DefD := ⟨("law", none), "law", "law", defArgs sLaw, defBody sLaw, defScope sLaw, [], []⟩
def d_Tree___init__ : He.DefD := ⟨("Tree", some "__init__"), "__init__", "Tree.__init__", defArgs sInit, defBody sInit, defScope sInit, [], []⟩
def d_Walker___init__ : He.DefD := ⟨("Walker", some "__init__"), "__init__", "Walker.__init__", defArgs sWkI, defBody sWkI, defScope sWkI, [], []⟩
def d_Walker_onward : He.DefD := ⟨("Walker", some "onward"), "onward", "Walker.onward", defArgs sOnw, defBody sOnw, defScope sOnw, [], []⟩
def d_Walker_start : He.DefD := ⟨("Walker", some "start"), "start", "Walker.start", defArgs sStart, defBody sStart, defScope sStart, [], []⟩
def d_Walker_walked : He.DefD := ⟨("Walker", some "walked"), "walked", "Walker.walked", defArgs sWalked, defBody sWalked, defScope sWalked, [.bl true], []⟩
def d_Mount___init__ : He.DefD := ⟨("Mount", some "__init__"), "__init__", "Mount.__init__", defArgs sMtI, defBody sMtI, defScope sMtI, [], []⟩
def d_Mount_copied : He.DefD := ⟨("Mount", some "copied"), "copied", "Mount.copied", defArgs sMtC, defBody sMtC, defScope sMtC, [], []⟩
def d_Mount_kind : He.DefD := ⟨("Mount", some "kind"), "kind", "Mount.kind", defArgs sKindM, defBody sKindM, defScope sKindM, [], []⟩
def d_Table___init__ : He.DefD := ⟨("Table", some "__init__"), "__init__", "Table.__init__", defArgs sTbI, defBody sTbI, defScope sTbI, [], []⟩
def d_Table_copied : He.DefD := ⟨("Table", some "copied"), "copied", "Table.copied", defArgs sTbC, defBody sTbC, defScope sTbC, [], []⟩
def d_Table_next : He.DefD := ⟨("Table", some "next"), "next", "Table.next", defArgs sNext, defBody sNext, defScope sNext, [], []⟩
def d_Table_mount : He.DefD := ⟨("Table", some "mount"), "mount", "Table.mount", defArgs sMount, defBody sMount, defScope sMount, [], []⟩
def d_Table_sure_space : He.DefD := ⟨("Table", some "sure_space"), "sure_space", "Table.sure_space", defArgs sSureS, defBody sSureS, defScope sSureS, [], []⟩
def d_Table_sure_room : He.DefD := ⟨("Table", some "sure_room"), "sure_room", "Table.sure_room", defArgs sRoom, defBody sRoom, defScope sRoom, [], []⟩
def d_Table_new_mount : He.DefD := ⟨("Table", some "new_mount"), "new_mount", "Table.new_mount", defArgs sNewM, defBody sNewM, defScope sNewM, [], []⟩
def d_Table_standing : He.DefD := ⟨("Table", some "standing"), "standing", "Table.standing", defArgs sStand, defBody sStand, defScope sStand, [], []⟩
def d_Table_new_group : He.DefD := ⟨("Table", some "new_group"), "new_group", "Table.new_group", defArgs sNewG, defBody sNewG, defScope sNewG, [], []⟩
def d_Table_join : He.DefD := ⟨("Table", some "join"), "join", "Table.join", defArgs sJoin, defBody sJoin, defScope sJoin, [], []⟩
def d_Table_follow : He.DefD := ⟨("Table", some "follow"), "follow", "Table.follow", defArgs sFollow, defBody sFollow, defScope sFollow, [], []⟩
def d_Table_unfollow : He.DefD := ⟨("Table", some "unfollow"), "unfollow", "Table.unfollow", defArgs sUnf, defBody sUnf, defScope sUnf, [], []⟩
def d_Table_leave : He.DefD := ⟨("Table", some "leave"), "leave", "Table.leave", defArgs sLeave, defBody sLeave, defScope sLeave, [], []⟩
def d_Table_end : He.DefD := ⟨("Table", some "end"), "end", "Table.end", defArgs sEnd, defBody sEnd, defScope sEnd, [], []⟩
def d_World___init__ : He.DefD := ⟨("World", some "__init__"), "__init__", "World.__init__", defArgs sWoI, defBody sWoI, defScope sWoI, [.int 1000], []⟩
def d_World_do : He.DefD := ⟨("World", some "do"), "do", "World.do", defArgs sDo, defBody sDo, defScope sDo, [], []⟩
def d_World_stood : He.DefD := ⟨("World", some "stood"), "stood", "World.stood", defArgs sStood, defBody sStood, defScope sStood, [], []⟩
def d_World_told : He.DefD := ⟨("World", some "told"), "told", "World.told", defArgs sTold, defBody sTold, defScope sTold, [], []⟩
def d_World_peers : He.DefD := ⟨("World", some "peers"), "peers", "World.peers", defArgs sPeers, defBody sPeers, defScope sPeers, [], []⟩
def d_World_followed : He.DefD := ⟨("World", some "followed"), "followed", "World.followed", defArgs sFollowed, defBody sFollowed, defScope sFollowed, [], []⟩
def fn1 : List He.DefD := [d_is_whole, d_is_name, d_is_path, d_is_absolute, d_parts_of, d_node_value, d_space_root, d_walk_in, d_is_entry, d_is_deed, d_mount_in, d_do_make, d_make_one, d_do_clone, d_make_deed, d_sure_deed, d_are_trees, d__law_cell_at, d__law_digit, d__law_due, d__law_ended, d__law_made, d__law_right, d_law]
def fn2 : List He.DefD := [d_Tree___init__, d_Walker___init__, d_Walker_onward, d_Walker_start, d_Walker_walked, d_Mount___init__, d_Mount_copied, d_Mount_kind, d_Table___init__, d_Table_copied, d_Table_next, d_Table_mount, d_Table_sure_space, d_Table_sure_room, d_Table_new_mount, d_Table_standing, d_Table_new_group, d_Table_join, d_Table_follow, d_Table_unfollow, d_Table_leave, d_Table_end, d_World___init__, d_World_do, d_World_stood, d_World_told, d_World_peers, d_World_followed]
def fn : List He.DefD := fn1 ++ fn2
def fa1 : List He.Fa := [.free "isinstance", .free "int", .free "bool", .free "str", .free "dict", .free "tuple", .free "range", .free "len", .free "all", .free "any", .free "sorted", .free "zip", .free "list", .free "max", .free "min", .free "enumerate"]
def fa2 : List He.Fa := [.glo "is_whole", .glo "is_name", .glo "is_path", .glo "is_absolute", .glo "parts_of", .glo "node_value", .glo "space_root", .glo "walk_in", .glo "is_entry", .glo "is_deed", .glo "mount_in", .glo "do_make", .glo "make_one", .glo "do_clone", .glo "make_deed", .glo "sure_deed", .glo "are_trees", .glo "_law_cell_at", .glo "_law_digit", .glo "_law_due", .glo "_law_ended", .glo "_law_made", .glo "_law_right", .glo "law", .glo "Tree", .glo "Walker", .glo "Mount", .glo "Table", .glo "World", .glo "NoTree", .glo "KINDS", .glo "FORMS", .glo "do_mount", .glo "do_bind", .glo "do_bind_all", .glo "do_move", .glo "do_make_all"]
def fa4 : List He.Fa := [.str "LETTERS" letters, .int "MOST_NODES" 60, .int "MOST_DEPTH" 8, .cls "Tree", .cls "Walker", .cls "Mount", .cls "Table", .cls "World", .noat "Tree" "nodes", .mkr "Tree", .mkr "Walker", .mkr "Mount", .mkr "Table", .mkr "World", .exc "NoTree", .exm "NoTree" "NoTree" true]
def fa5 : List He.Fa := [.meth "Walker" "onward", .meth "Walker" "start", .meth "Walker" "walked", .meth "Mount" "copied", .meth "Mount" "kind", .meth "Table" "copied", .meth "Table" "next", .meth "Table" "mount", .meth "Table" "sure_space", .meth "Table" "sure_room", .meth "Table" "new_mount", .meth "Table" "standing", .meth "Table" "new_group", .meth "Table" "join", .meth "Table" "follow", .meth "Table" "unfollow", .meth "Table" "leave", .meth "Table" "end", .meth "World" "do", .meth "World" "stood", .meth "World" "told", .meth "World" "peers", .meth "World" "followed"]
def fa6 : List He.Fa := (mtN.map fun f => He.Fa.noat "Mount" f) ++ ((tbN.map fun f => He.Fa.noat "Table" f) ++ ((woN.map fun f => He.Fa.noat "World" f) ++ (wkN.map fun f => He.Fa.noat "Walker" f)))
def fa : List He.Fa := fa1 ++ (fa2 ++ (fa4 ++ (fa5 ++ fa6)))
def ts : List He.Tab := [(fun K => He.ga K "FORMS", formsL.map (·.1))]
def trB (K : PySem.W.Frag) (C : Addr) : Bool := decide (PySem.W.findIn K (.ref C) "__class__" = some (some (.builtin "object.__class__"))) && (decide (PySem.W.specialIn K (.builtin "object.__class__") "__get__" = some (some (.builtin "getset_descriptor.__get__"))) && (decide (PySem.W.takesIn K (.builtin "object.__class__") = some true) && (decide (PySem.W.mroIn K C (.type "object") = some true) && (decide (PySem.W.kitOne K (.ref C) (.ref C) = some true) && decide (PySem.W.kitOne K (.type "dict") (.ref C) = some false)))))
/-- a tuple of texts at an address -/
def tupA (K : PySem.W.Frag) (a : Addr) (ws : List Str) : Bool := match K.lookup a with
  | some ⟨.type c, _, .seq its _, _⟩ => decide (c = "tuple") && (decide (its.size ≤ 100) && He.relAll (ws.map V.str) its.toList)
  | _ => false
theorem tupA_ok {K : PySem.W.Frag} {a : Addr} {ws : List Str} (h : tupA K a ws = true) (H : Hp) : SqT K H a (ws.map V.str) := by
  unfold tupA at h
  split at h
  · rename_i c d its n sl q
    simp only [Bool.and_eq_true, decide_eq_true_eq] at h
    obtain ⟨h1, h2, h3⟩ := h
    subst h1
    exact .inr ⟨_, its, n, q, rfl, rfl, by rw [sizeLine_eq]; omega, He.relAll_ok h3⟩
  · cases h
def formB (K : PySem.W.Frag) : Bool := (formsL.all fun p => match PySem.W.nsIn K (He.ga K "FORMS") p.1 with
  | some (some (.ref t)) => tupA K t p.2
  | _ => false) && noWords.all fun z => decide (PySem.W.nsIn K (He.ga K "FORMS") z = some none)
def exB (K : PySem.W.Frag) : Bool := trB K (He.ga K "Tree") && (tupA K (He.ga K "KINDS") kindsL && formB K)
abbrev R : PySem.W.OpenRow := PySem.W.OpenLaw.row PySem.Challenge.rw_spreadmounts_k28_groups_that_end
def few : Hk.Few := ⟨["Tree", "Walker", "Mount", "Table", "World", "NoTree", "MountError"], ["is_whole", "is_name", "is_path", "is_absolute", "parts_of", "node_value", "space_root", "walk_in", "is_entry", "is_deed", "mount_in", "do_make", "make_one", "do_clone", "make_deed", "sure_deed", "are_trees", "_law_cell_at", "_law_digit", "_law_due", "_law_ended", "_law_made", "_law_right", "law"], ["KINDS", "FORMS"], [("Tree", "__init__"), ("Walker", "__init__"), ("Walker", "onward"), ("Walker", "start"), ("Walker", "walked"), ("Mount", "__init__"), ("Mount", "copied"), ("Mount", "kind"), ("Table", "__init__"), ("Table", "copied"), ("Table", "next"), ("Table", "mount"), ("Table", "sure_space"), ("Table", "sure_room"), ("Table", "new_mount"), ("Table", "standing"), ("Table", "new_group"), ("Table", "join"), ("Table", "follow"), ("Table", "unfollow"), ("Table", "leave"), ("Table", "end"), ("World", "__init__"), ("World", "do"), ("World", "stood"), ("World", "told"), ("World", "peers"), ("World", "followed")], ["do_clone"]⟩
abbrev hk : PySem.W.Hook := Hk.hook few fa fn ts exB
def ob (s : PySem.W.SharedT) : Hk.Al := Hk.obs few fa fn ts exB (HandSHeadRun.getT s)
theorem ob_eq (s : PySem.W.SharedT) : ob s = hk.obs s.abs := Hk.obs_eq (HandSHeadRun.getT_eq s)
theorem runF (w : World) : HandSHeadRun.RunEq R (PySem.W.view R.prog [83]) hk ob 60000 loose (w.withFollow "special-get-raises" false) := by
  intro os
  kernel_rfl
end Hx
set_option autoImplicit true
set_option Elab.async false
set_option linter.all false
set_option maxRecDepth 100000
set_option maxHeartbeats 16000000
namespace Hx
open PySem PySem.Spec PyProof.Rows L2 Tx Rp Cm
section
variable {P : Program} {w : World} {K : PySem.W.Frag} {h : Heap} {mg : Str → Option Value} {base : Heap}
theorem f_is_whole (c : He.SaysD fa fn K) : ∃ fd, Fun K "is_whole" "is_whole" sWhole (He.ga K "is_whole") fd ∧ Binds K fd ["thing", "low", "high"] [] := by
  obtain ⟨fd, F⟩ := c.def_ 0 (d := d_is_whole) rfl
  have F1 : Fun K "is_whole" "is_whole" sWhole (He.ga K "is_whole") fd := He5.fun_of F
  exact ⟨fd, F1, F1.binds (ps := ["thing", "low", "high"]) fun _ _ _ _ _ _ us hl => match us, hl with | [_, _, _], _ => rfl⟩
theorem f_is_name (c : He.SaysD fa fn K) : ∃ fd, Fun K "is_name" "is_name" sName (He.ga K "is_name") fd ∧ Binds K fd ["thing"] [] := by
  obtain ⟨fd, F⟩ := c.def_ 1 (d := d_is_name) rfl
  have F1 : Fun K "is_name" "is_name" sName (He.ga K "is_name") fd := He5.fun_of F
  exact ⟨fd, F1, F1.binds (ps := ["thing"]) fun _ _ _ _ _ _ us hl => match us, hl with | [_], _ => rfl⟩
theorem f_is_path (c : He.SaysD fa fn K) : ∃ fd, Fun K "is_path" "is_path" sPath (He.ga K "is_path") fd ∧ Binds K fd ["thing"] [] := by
  obtain ⟨fd, F⟩ := c.def_ 2 (d := d_is_path) rfl
  have F1 : Fun K "is_path" "is_path" sPath (He.ga K "is_path") fd := He5.fun_of F
  exact ⟨fd, F1, F1.binds (ps := ["thing"]) fun _ _ _ _ _ _ us hl => match us, hl with | [_], _ => rfl⟩
theorem f_is_absolute (c : He.SaysD fa fn K) : ∃ fd, Fun K "is_absolute" "is_absolute" sAbs (He.ga K "is_absolute") fd ∧ Binds K fd ["path"] [] := by
  obtain ⟨fd, F⟩ := c.def_ 3 (d := d_is_absolute) rfl
  have F1 : Fun K "is_absolute" "is_absolute" sAbs (He.ga K "is_absolute") fd := He5.fun_of F
  exact ⟨fd, F1, F1.binds (ps := ["path"]) fun _ _ _ _ _ _ us hl => match us, hl with | [_], _ => rfl⟩
theorem f_parts_of (c : He.SaysD fa fn K) : ∃ fd, Fun K "parts_of" "parts_of" sParts (He.ga K "parts_of") fd ∧ Binds K fd ["path"] [] := by
  obtain ⟨fd, F⟩ := c.def_ 4 (d := d_parts_of) rfl
  have F1 : Fun K "parts_of" "parts_of" sParts (He.ga K "parts_of") fd := He5.fun_of F
  exact ⟨fd, F1, F1.binds (ps := ["path"]) fun _ _ _ _ _ _ us hl => match us, hl with | [_], _ => rfl⟩
theorem f_node_value (c : He.SaysD fa fn K) : ∃ fd, Fun K "node_value" "node_value" sNode (He.ga K "node_value") fd ∧ Binds K fd ["thing", "depth", "met"] [] := by
  obtain ⟨fd, F⟩ := c.def_ 5 (d := d_node_value) rfl
  have F1 : Fun K "node_value" "node_value" sNode (He.ga K "node_value") fd := He5.fun_of F
  exact ⟨fd, F1, F1.binds (ps := ["thing", "depth", "met"]) fun _ _ _ _ _ _ us hl => match us, hl with | [_, _, _], _ => rfl⟩
theorem f_space_root (c : He.SaysD fa fn K) : ∃ fd, Fun K "space_root" "space_root" sSpaceRoot (He.ga K "space_root") fd ∧ Binds K fd ["table", "space"] [] := by
  obtain ⟨fd, F⟩ := c.def_ 6 (d := d_space_root) rfl
  have F1 : Fun K "space_root" "space_root" sSpaceRoot (He.ga K "space_root") fd := He5.fun_of F
  exact ⟨fd, F1, F1.binds (ps := ["table", "space"]) fun _ _ _ _ _ _ us hl => match us, hl with | [_, _], _ => rfl⟩
theorem f_walk_in (c : He.SaysD fa fn K) : ∃ fd, Fun K "walk_in" "walk_in" sWalkIn (He.ga K "walk_in") fd ∧ Binds K fd ["table", "space", "path"] [] := by
  obtain ⟨fd, F⟩ := c.def_ 7 (d := d_walk_in) rfl
  have F1 : Fun K "walk_in" "walk_in" sWalkIn (He.ga K "walk_in") fd := He5.fun_of F
  exact ⟨fd, F1, F1.binds (ps := ["table", "space", "path"]) fun _ _ _ _ _ _ us hl => match us, hl with | [_, _, _], _ => rfl⟩
theorem f_is_entry (c : He.SaysD fa fn K) : ∃ fd, Fun K "is_entry" "is_entry" sEntry (He.ga K "is_entry") fd ∧ Binds K fd ["thing", "sort"] [] := by
  obtain ⟨fd, F⟩ := c.def_ 8 (d := d_is_entry) rfl
  have F1 : Fun K "is_entry" "is_entry" sEntry (He.ga K "is_entry") fd := He5.fun_of F
  exact ⟨fd, F1, F1.binds (ps := ["thing", "sort"]) fun _ _ _ _ _ _ us hl => match us, hl with | [_, _], _ => rfl⟩
theorem f_is_deed (c : He.SaysD fa fn K) : ∃ fd, Fun K "is_deed" "is_deed" sIsDeed (He.ga K "is_deed") fd ∧ Binds K fd ["thing"] [] := by
  obtain ⟨fd, F⟩ := c.def_ 9 (d := d_is_deed) rfl
  have F1 : Fun K "is_deed" "is_deed" sIsDeed (He.ga K "is_deed") fd := He5.fun_of F
  exact ⟨fd, F1, F1.binds (ps := ["thing"]) fun _ _ _ _ _ _ us hl => match us, hl with | [_], _ => rfl⟩
theorem f_mount_in (c : He.SaysD fa fn K) : ∃ fd, Fun K "mount_in" "mount_in" sMountIn (He.ga K "mount_in") fd ∧ Binds K fd ["table", "space", "path"] [] := by
  obtain ⟨fd, F⟩ := c.def_ 10 (d := d_mount_in) rfl
  have F1 : Fun K "mount_in" "mount_in" sMountIn (He.ga K "mount_in") fd := He5.fun_of F
  exact ⟨fd, F1, F1.binds (ps := ["table", "space", "path"]) fun _ _ _ _ _ _ us hl => match us, hl with | [_, _, _], _ => rfl⟩
theorem f_do_make (c : He.SaysD fa fn K) : ∃ fd, Fun K "do_make" "do_make" sDoMake (He.ga K "do_make") fd ∧ Binds K fd ["table", "space", "path", "kind"] [] := by
  obtain ⟨fd, F⟩ := c.def_ 11 (d := d_do_make) rfl
  have F1 : Fun K "do_make" "do_make" sDoMake (He.ga K "do_make") fd := He5.fun_of F
  exact ⟨fd, F1, F1.binds (ps := ["table", "space", "path", "kind"]) fun _ _ _ _ _ _ us hl => match us, hl with | [_, _, _, _], _ => rfl⟩
theorem f_make_one (c : He.SaysD fa fn K) : ∃ fd, Fun K "make_one" "make_one" sMakeOne (He.ga K "make_one") fd ∧ Binds K fd ["table", "mount", "kind"] [] := by
  obtain ⟨fd, F⟩ := c.def_ 12 (d := d_make_one) rfl
  have F1 : Fun K "make_one" "make_one" sMakeOne (He.ga K "make_one") fd := He5.fun_of F
  exact ⟨fd, F1, F1.binds (ps := ["table", "mount", "kind"]) fun _ _ _ _ _ _ us hl => match us, hl with | [_, _, _], _ => rfl⟩
theorem f_do_clone (c : He.SaysD fa fn K) : ∃ fd, Fun K "do_clone" "do_clone" sDoClone (He.ga K "do_clone") fd ∧ Binds K fd ["table", "space", "trusted"] [] := by
  obtain ⟨fd, F⟩ := c.def_ 13 (d := d_do_clone) rfl
  have F1 : Fun K "do_clone" "do_clone" sDoClone (He.ga K "do_clone") fd := He5.fun_of F
  exact ⟨fd, F1, F1.binds (ps := ["table", "space", "trusted"]) fun _ _ _ _ _ _ us hl => match us, hl with | [_, _, _], _ => rfl⟩
theorem f_make_deed (c : He.SaysD fa fn K) : ∃ fd, Fun K "make_deed" "make_deed" sMakeDeed (He.ga K "make_deed") fd ∧ Binds K fd ["table", "deed", "stood"] [] := by
  obtain ⟨fd, F⟩ := c.def_ 14 (d := d_make_deed) rfl
  have F1 : Fun K "make_deed" "make_deed" sMakeDeed (He.ga K "make_deed") fd := He5.fun_of F
  exact ⟨fd, F1, F1.binds (ps := ["table", "deed", "stood"]) fun _ _ _ _ _ _ us hl => match us, hl with | [_, _, _], _ => rfl⟩
theorem f_sure_deed (c : He.SaysD fa fn K) : ∃ fd, Fun K "sure_deed" "sure_deed" sSureDeed (He.ga K "sure_deed") fd ∧ Binds K fd ["thing"] [] := by
  obtain ⟨fd, F⟩ := c.def_ 15 (d := d_sure_deed) rfl
  have F1 : Fun K "sure_deed" "sure_deed" sSureDeed (He.ga K "sure_deed") fd := He5.fun_of F
  exact ⟨fd, F1, F1.binds (ps := ["thing"]) fun _ _ _ _ _ _ us hl => match us, hl with | [_], _ => rfl⟩
theorem f_are_trees (c : He.SaysD fa fn K) : ∃ fd, Fun K "are_trees" "are_trees" sAreTrees (He.ga K "are_trees") fd ∧ Binds K fd ["thing"] [] := by
  obtain ⟨fd, F⟩ := c.def_ 16 (d := d_are_trees) rfl
  have F1 : Fun K "are_trees" "are_trees" sAreTrees (He.ga K "are_trees") fd := He5.fun_of F
  exact ⟨fd, F1, F1.binds (ps := ["thing"]) fun _ _ _ _ _ _ us hl => match us, hl with | [_], _ => rfl⟩
theorem f__law_cell_at (c : He.SaysD fa fn K) : ∃ fd, Fun K "_law_cell_at" "_law_cell_at" sCell (He.ga K "_law_cell_at") fd ∧ Binds K fd ["_law_script", "_law_k"] [] := by
  obtain ⟨fd, F⟩ := c.def_ 17 (d := d__law_cell_at) rfl
  have F1 : Fun K "_law_cell_at" "_law_cell_at" sCell (He.ga K "_law_cell_at") fd := He5.fun_of F
  exact ⟨fd, F1, F1.binds (ps := ["_law_script", "_law_k"]) fun _ _ _ _ _ _ us hl => match us, hl with | [_, _], _ => rfl⟩
theorem f__law_digit (c : He.SaysD fa fn K) : ∃ fd, Fun K "_law_digit" "_law_digit" sDigit (He.ga K "_law_digit") fd ∧ Binds K fd ["_law_state", "_law_base"] [] := by
  obtain ⟨fd, F⟩ := c.def_ 18 (d := d__law_digit) rfl
  have F1 : Fun K "_law_digit" "_law_digit" sDigit (He.ga K "_law_digit") fd := He5.fun_of F
  exact ⟨fd, F1, F1.binds (ps := ["_law_state", "_law_base"]) fun _ _ _ _ _ _ us hl => match us, hl with | [_, _], _ => rfl⟩
theorem f__law_due (c : He.SaysD fa fn K) : ∃ fd, Fun K "_law_due" "_law_due" sDue (He.ga K "_law_due") fd ∧ Binds K fd ["_law_groups", "_law_over", "_law_after", "_law_k"] [] := by
  obtain ⟨fd, F⟩ := c.def_ 19 (d := d__law_due) rfl
  have F1 : Fun K "_law_due" "_law_due" sDue (He.ga K "_law_due") fd := He5.fun_of F
  exact ⟨fd, F1, F1.binds (ps := ["_law_groups", "_law_over", "_law_after", "_law_k"]) fun _ _ _ _ _ _ us hl => match us, hl with | [_, _, _, _], _ => rfl⟩
theorem f__law_ended (c : He.SaysD fa fn K) : ∃ fd, Fun K "_law_ended" "_law_ended" sEnded (He.ga K "_law_ended") fd ∧ Binds K fd ["_law_groups", "_law_over", "_law_after"] [] := by
  obtain ⟨fd, F⟩ := c.def_ 20 (d := d__law_ended) rfl
  have F1 : Fun K "_law_ended" "_law_ended" sEnded (He.ga K "_law_ended") fd := He5.fun_of F
  exact ⟨fd, F1, F1.binds (ps := ["_law_groups", "_law_over", "_law_after"]) fun _ _ _ _ _ _ us hl => match us, hl with | [_, _, _], _ => rfl⟩
theorem f__law_made (c : He.SaysD fa fn K) : ∃ fd, Fun K "_law_made" "_law_made" sMade (He.ga K "_law_made") fd ∧ Binds K fd ["_law_groups", "_law_over", "_law_after", "_law_k", "_law_kind", "_law_group"] [] := by
  obtain ⟨fd, F⟩ := c.def_ 21 (d := d__law_made) rfl
  have F1 : Fun K "_law_made" "_law_made" sMade (He.ga K "_law_made") fd := He5.fun_of F
  exact ⟨fd, F1, F1.binds (ps := ["_law_groups", "_law_over", "_law_after", "_law_k", "_law_kind", "_law_group"]) fun _ _ _ _ _ _ us hl => match us, hl with | [_, _, _, _, _, _], _ => rfl⟩
theorem f__law_right (c : He.SaysD fa fn K) : ∃ fd, Fun K "_law_right" "_law_right" sRight (He.ga K "_law_right") fd ∧ Binds K fd ["_law_world", "_law_groups", "_law_over", "_law_after", "_law_marked"] [] := by
  obtain ⟨fd, F⟩ := c.def_ 22 (d := d__law_right) rfl
  have F1 : Fun K "_law_right" "_law_right" sRight (He.ga K "_law_right") fd := He5.fun_of F
  exact ⟨fd, F1, F1.binds (ps := ["_law_world", "_law_groups", "_law_over", "_law_after", "_law_marked"]) fun _ _ _ _ _ _ us hl => match us, hl with | [_, _, _, _, _], _ => rfl⟩
theorem f_law (c : He.SaysD fa fn K) : ∃ fd, Fun K "law" "law" sLaw (He.ga K "law") fd ∧ Binds K fd ["_law_script"] [] := by
  obtain ⟨fd, F⟩ := c.def_ 23 (d := d_law) rfl
  have F1 : Fun K "law" "law" sLaw (He.ga K "law") fd := He5.fun_of F
  exact ⟨fd, F1, F1.binds (ps := ["_law_script"]) fun _ _ _ _ _ _ us hl => match us, hl with | [_], _ => rfl⟩
theorem f_Tree___init__ (c : He.SaysD fa fn K) : ∃ fd, Fun K "__init__" "Tree.__init__" sInit (He.ma K (He.ga K "Tree") "__init__") fd ∧ Binds K fd ["self", "top"] [] := by
  obtain ⟨fd, F⟩ := c.def_ 24 (d := d_Tree___init__) rfl
  have F1 : Fun K "__init__" "Tree.__init__" sInit (He.ma K (He.ga K "Tree") "__init__") fd := He5.fun_of F
  exact ⟨fd, F1, F1.binds (ps := ["self", "top"]) fun _ _ _ _ _ _ us hl => match us, hl with | [_, _], _ => rfl⟩
theorem f_Walker___init__ (c : He.SaysD fa fn K) : ∃ fd, Fun K "__init__" "Walker.__init__" sWkI (He.ma K (He.ga K "Walker") "__init__") fd ∧ Binds K fd ["self", "table", "root"] [] := by
  obtain ⟨fd, F⟩ := c.def_ 25 (d := d_Walker___init__) rfl
  have F1 : Fun K "__init__" "Walker.__init__" sWkI (He.ma K (He.ga K "Walker") "__init__") fd := He5.fun_of F
  exact ⟨fd, F1, F1.binds (ps := ["self", "table", "root"]) fun _ _ _ _ _ _ us hl => match us, hl with | [_, _, _], _ => rfl⟩
theorem f_Walker_onward (c : He.SaysD fa fn K) : ∃ fd, Fun K "onward" "Walker.onward" sOnw (He.ma K (He.ga K "Walker") "onward") fd ∧ Binds K fd ["self", "here"] [] := by
  obtain ⟨fd, F⟩ := c.def_ 26 (d := d_Walker_onward) rfl
  have F1 : Fun K "onward" "Walker.onward" sOnw (He.ma K (He.ga K "Walker") "onward") fd := He5.fun_of F
  exact ⟨fd, F1, F1.binds (ps := ["self", "here"]) fun _ _ _ _ _ _ us hl => match us, hl with | [_, _], _ => rfl⟩
theorem f_Walker_start (c : He.SaysD fa fn K) : ∃ fd, Fun K "start" "Walker.start" sStart (He.ma K (He.ga K "Walker") "start") fd ∧ Binds K fd ["self", "here", "path"] [] := by
  obtain ⟨fd, F⟩ := c.def_ 27 (d := d_Walker_start) rfl
  have F1 : Fun K "start" "Walker.start" sStart (He.ma K (He.ga K "Walker") "start") fd := He5.fun_of F
  exact ⟨fd, F1, F1.binds (ps := ["self", "here", "path"]) fun _ _ _ _ _ _ us hl => match us, hl with | [_, _, _], _ => rfl⟩
theorem f_Walker_walked (c : He.SaysD fa fn K) : ∃ fd ds, FunD K "walked" "Walker.walked" (defArgs sWalked) (defBody sWalked) (defScope sWalked) [.bl true] [] (He.ma K (He.ga K "Walker") "walked") fd ∧ Binds K fd ["self", "here", "path", "last"] ds ∧ Vals [.bl true] ds := by
  obtain ⟨fd, F⟩ := c.def_ 28 (d := d_Walker_walked) rfl
  have F1 : FunD K "walked" "Walker.walked" (defArgs sWalked) (defBody sWalked) (defScope sWalked) [.bl true] [] (He.ma K (He.ga K "Walker") "walked") fd := F
  obtain ⟨ds, v, b⟩ := F1.binds1 (ps := ["self", "here", "path", "last"]) 3 0 (by simp) rfl fun _ _ _ _ _ _ _ us its h1 h2 => match us, its, h1, h2 with | [_, _, _], [_], _, _ => ⟨_, rfl, rfl⟩
  exact ⟨fd, ds, F1, b, v⟩
theorem f_Mount___init__ (c : He.SaysD fa fn K) : ∃ fd, Fun K "__init__" "Mount.__init__" sMtI (He.ma K (He.ga K "Mount") "__init__") fd ∧ Binds K fd ["self", "number", "space", "tree", "root"] [] := by
  obtain ⟨fd, F⟩ := c.def_ 29 (d := d_Mount___init__) rfl
  have F1 : Fun K "__init__" "Mount.__init__" sMtI (He.ma K (He.ga K "Mount") "__init__") fd := He5.fun_of F
  exact ⟨fd, F1, F1.binds (ps := ["self", "number", "space", "tree", "root"]) fun _ _ _ _ _ _ us hl => match us, hl with | [_, _, _, _, _], _ => rfl⟩
theorem f_Mount_copied (c : He.SaysD fa fn K) : ∃ fd, Fun K "copied" "Mount.copied" sMtC (He.ma K (He.ga K "Mount") "copied") fd ∧ Binds K fd ["self"] [] := by
  obtain ⟨fd, F⟩ := c.def_ 30 (d := d_Mount_copied) rfl
  have F1 : Fun K "copied" "Mount.copied" sMtC (He.ma K (He.ga K "Mount") "copied") fd := He5.fun_of F
  exact ⟨fd, F1, F1.binds (ps := ["self"]) fun _ _ _ _ _ _ us hl => match us, hl with | [_], _ => rfl⟩
theorem f_Mount_kind (c : He.SaysD fa fn K) : ∃ fd, Fun K "kind" "Mount.kind" sKindM (He.ma K (He.ga K "Mount") "kind") fd ∧ Binds K fd ["self", "masters"] [] := by
  obtain ⟨fd, F⟩ := c.def_ 31 (d := d_Mount_kind) rfl
  have F1 : Fun K "kind" "Mount.kind" sKindM (He.ma K (He.ga K "Mount") "kind") fd := He5.fun_of F
  exact ⟨fd, F1, F1.binds (ps := ["self", "masters"]) fun _ _ _ _ _ _ us hl => match us, hl with | [_, _], _ => rfl⟩
theorem f_Table___init__ (c : He.SaysD fa fn K) : ∃ fd, Fun K "__init__" "Table.__init__" sTbI (He.ma K (He.ga K "Table") "__init__") fd ∧ Binds K fd ["self", "trees", "most"] [] := by
  obtain ⟨fd, F⟩ := c.def_ 32 (d := d_Table___init__) rfl
  have F1 : Fun K "__init__" "Table.__init__" sTbI (He.ma K (He.ga K "Table") "__init__") fd := He5.fun_of F
  exact ⟨fd, F1, F1.binds (ps := ["self", "trees", "most"]) fun _ _ _ _ _ _ us hl => match us, hl with | [_, _, _], _ => rfl⟩
theorem f_Table_copied (c : He.SaysD fa fn K) : ∃ fd, Fun K "copied" "Table.copied" sTbC (He.ma K (He.ga K "Table") "copied") fd ∧ Binds K fd ["self"] [] := by
  obtain ⟨fd, F⟩ := c.def_ 33 (d := d_Table_copied) rfl
  have F1 : Fun K "copied" "Table.copied" sTbC (He.ma K (He.ga K "Table") "copied") fd := He5.fun_of F
  exact ⟨fd, F1, F1.binds (ps := ["self"]) fun _ _ _ _ _ _ us hl => match us, hl with | [_], _ => rfl⟩
theorem f_Table_next (c : He.SaysD fa fn K) : ∃ fd, Fun K "next" "Table.next" sNext (He.ma K (He.ga K "Table") "next") fd ∧ Binds K fd ["self", "what"] [] := by
  obtain ⟨fd, F⟩ := c.def_ 34 (d := d_Table_next) rfl
  have F1 : Fun K "next" "Table.next" sNext (He.ma K (He.ga K "Table") "next") fd := He5.fun_of F
  exact ⟨fd, F1, F1.binds (ps := ["self", "what"]) fun _ _ _ _ _ _ us hl => match us, hl with | [_, _], _ => rfl⟩
theorem f_Table_mount (c : He.SaysD fa fn K) : ∃ fd, Fun K "mount" "Table.mount" sMount (He.ma K (He.ga K "Table") "mount") fd ∧ Binds K fd ["self", "number"] [] := by
  obtain ⟨fd, F⟩ := c.def_ 35 (d := d_Table_mount) rfl
  have F1 : Fun K "mount" "Table.mount" sMount (He.ma K (He.ga K "Table") "mount") fd := He5.fun_of F
  exact ⟨fd, F1, F1.binds (ps := ["self", "number"]) fun _ _ _ _ _ _ us hl => match us, hl with | [_, _], _ => rfl⟩
theorem f_Table_sure_space (c : He.SaysD fa fn K) : ∃ fd, Fun K "sure_space" "Table.sure_space" sSureS (He.ma K (He.ga K "Table") "sure_space") fd ∧ Binds K fd ["self", "space"] [] := by
  obtain ⟨fd, F⟩ := c.def_ 36 (d := d_Table_sure_space) rfl
  have F1 : Fun K "sure_space" "Table.sure_space" sSureS (He.ma K (He.ga K "Table") "sure_space") fd := He5.fun_of F
  exact ⟨fd, F1, F1.binds (ps := ["self", "space"]) fun _ _ _ _ _ _ us hl => match us, hl with | [_, _], _ => rfl⟩
theorem f_Table_sure_room (c : He.SaysD fa fn K) : ∃ fd, Fun K "sure_room" "Table.sure_room" sRoom (He.ma K (He.ga K "Table") "sure_room") fd ∧ Binds K fd ["self", "more"] [] := by
  obtain ⟨fd, F⟩ := c.def_ 37 (d := d_Table_sure_room) rfl
  have F1 : Fun K "sure_room" "Table.sure_room" sRoom (He.ma K (He.ga K "Table") "sure_room") fd := He5.fun_of F
  exact ⟨fd, F1, F1.binds (ps := ["self", "more"]) fun _ _ _ _ _ _ us hl => match us, hl with | [_, _], _ => rfl⟩
theorem f_Table_new_mount (c : He.SaysD fa fn K) : ∃ fd, Fun K "new_mount" "Table.new_mount" sNewM (He.ma K (He.ga K "Table") "new_mount") fd ∧ Binds K fd ["self", "space", "tree", "root"] [] := by
  obtain ⟨fd, F⟩ := c.def_ 38 (d := d_Table_new_mount) rfl
  have F1 : Fun K "new_mount" "Table.new_mount" sNewM (He.ma K (He.ga K "Table") "new_mount") fd := He5.fun_of F
  exact ⟨fd, F1, F1.binds (ps := ["self", "space", "tree", "root"]) fun _ _ _ _ _ _ us hl => match us, hl with | [_, _, _, _], _ => rfl⟩
theorem f_Table_standing (c : He.SaysD fa fn K) : ∃ fd, Fun K "standing" "Table.standing" sStand (He.ma K (He.ga K "Table") "standing") fd ∧ Binds K fd ["self", "number", "node"] [] := by
  obtain ⟨fd, F⟩ := c.def_ 39 (d := d_Table_standing) rfl
  have F1 : Fun K "standing" "Table.standing" sStand (He.ma K (He.ga K "Table") "standing") fd := He5.fun_of F
  exact ⟨fd, F1, F1.binds (ps := ["self", "number", "node"]) fun _ _ _ _ _ _ us hl => match us, hl with | [_, _, _], _ => rfl⟩
theorem f_Table_new_group (c : He.SaysD fa fn K) : ∃ fd, Fun K "new_group" "Table.new_group" sNewG (He.ma K (He.ga K "Table") "new_group") fd ∧ Binds K fd ["self", "master"] [] := by
  obtain ⟨fd, F⟩ := c.def_ 40 (d := d_Table_new_group) rfl
  have F1 : Fun K "new_group" "Table.new_group" sNewG (He.ma K (He.ga K "Table") "new_group") fd := He5.fun_of F
  exact ⟨fd, F1, F1.binds (ps := ["self", "master"]) fun _ _ _ _ _ _ us hl => match us, hl with | [_, _], _ => rfl⟩
theorem f_Table_join (c : He.SaysD fa fn K) : ∃ fd, Fun K "join" "Table.join" sJoin (He.ma K (He.ga K "Table") "join") fd ∧ Binds K fd ["self", "mount", "group"] [] := by
  obtain ⟨fd, F⟩ := c.def_ 41 (d := d_Table_join) rfl
  have F1 : Fun K "join" "Table.join" sJoin (He.ma K (He.ga K "Table") "join") fd := He5.fun_of F
  exact ⟨fd, F1, F1.binds (ps := ["self", "mount", "group"]) fun _ _ _ _ _ _ us hl => match us, hl with | [_, _, _], _ => rfl⟩
theorem f_Table_follow (c : He.SaysD fa fn K) : ∃ fd, Fun K "follow" "Table.follow" sFollow (He.ma K (He.ga K "Table") "follow") fd ∧ Binds K fd ["self", "mount", "group"] [] := by
  obtain ⟨fd, F⟩ := c.def_ 42 (d := d_Table_follow) rfl
  have F1 : Fun K "follow" "Table.follow" sFollow (He.ma K (He.ga K "Table") "follow") fd := He5.fun_of F
  exact ⟨fd, F1, F1.binds (ps := ["self", "mount", "group"]) fun _ _ _ _ _ _ us hl => match us, hl with | [_, _, _], _ => rfl⟩
theorem f_Table_unfollow (c : He.SaysD fa fn K) : ∃ fd, Fun K "unfollow" "Table.unfollow" sUnf (He.ma K (He.ga K "Table") "unfollow") fd ∧ Binds K fd ["self", "mount"] [] := by
  obtain ⟨fd, F⟩ := c.def_ 43 (d := d_Table_unfollow) rfl
  have F1 : Fun K "unfollow" "Table.unfollow" sUnf (He.ma K (He.ga K "Table") "unfollow") fd := He5.fun_of F
  exact ⟨fd, F1, F1.binds (ps := ["self", "mount"]) fun _ _ _ _ _ _ us hl => match us, hl with | [_, _], _ => rfl⟩
theorem f_Table_leave (c : He.SaysD fa fn K) : ∃ fd, Fun K "leave" "Table.leave" sLeave (He.ma K (He.ga K "Table") "leave") fd ∧ Binds K fd ["self", "mount"] [] := by
  obtain ⟨fd, F⟩ := c.def_ 44 (d := d_Table_leave) rfl
  have F1 : Fun K "leave" "Table.leave" sLeave (He.ma K (He.ga K "Table") "leave") fd := He5.fun_of F
  exact ⟨fd, F1, F1.binds (ps := ["self", "mount"]) fun _ _ _ _ _ _ us hl => match us, hl with | [_, _], _ => rfl⟩
theorem f_Table_end (c : He.SaysD fa fn K) : ∃ fd, Fun K "end" "Table.end" sEnd (He.ma K (He.ga K "Table") "end") fd ∧ Binds K fd ["self", "group"] [] := by
  obtain ⟨fd, F⟩ := c.def_ 45 (d := d_Table_end) rfl
  have F1 : Fun K "end" "Table.end" sEnd (He.ma K (He.ga K "Table") "end") fd := He5.fun_of F
  exact ⟨fd, F1, F1.binds (ps := ["self", "group"]) fun _ _ _ _ _ _ us hl => match us, hl with | [_, _], _ => rfl⟩
theorem f_World___init__ (c : He.SaysD fa fn K) : ∃ fd ds, FunD K "__init__" "World.__init__" (defArgs sWoI) (defBody sWoI) (defScope sWoI) [.int 1000] [] (He.ma K (He.ga K "World") "__init__") fd ∧ Binds K fd ["self", "trees", "first", "most"] ds ∧ Vals [.int 1000] ds := by
  obtain ⟨fd, F⟩ := c.def_ 46 (d := d_World___init__) rfl
  have F1 : FunD K "__init__" "World.__init__" (defArgs sWoI) (defBody sWoI) (defScope sWoI) [.int 1000] [] (He.ma K (He.ga K "World") "__init__") fd := F
  obtain ⟨ds, v, b⟩ := F1.binds1 (ps := ["self", "trees", "first", "most"]) 3 0 (by simp) rfl fun _ _ _ _ _ _ _ us its h1 h2 => match us, its, h1, h2 with | [_, _, _], [_], _, _ => ⟨_, rfl, rfl⟩
  exact ⟨fd, ds, F1, b, v⟩
theorem f_World_do (c : He.SaysD fa fn K) : ∃ fd, Fun K "do" "World.do" sDo (He.ma K (He.ga K "World") "do") fd ∧ Binds K fd ["self", "deed"] [] := by
  obtain ⟨fd, F⟩ := c.def_ 47 (d := d_World_do) rfl
  have F1 : Fun K "do" "World.do" sDo (He.ma K (He.ga K "World") "do") fd := He5.fun_of F
  exact ⟨fd, F1, F1.binds (ps := ["self", "deed"]) fun _ _ _ _ _ _ us hl => match us, hl with | [_, _], _ => rfl⟩
theorem f_World_stood (c : He.SaysD fa fn K) : ∃ fd, Fun K "stood" "World.stood" sStood (He.ma K (He.ga K "World") "stood") fd ∧ Binds K fd ["self"] [] := by
  obtain ⟨fd, F⟩ := c.def_ 48 (d := d_World_stood) rfl
  have F1 : Fun K "stood" "World.stood" sStood (He.ma K (He.ga K "World") "stood") fd := He5.fun_of F
  exact ⟨fd, F1, F1.binds (ps := ["self"]) fun _ _ _ _ _ _ us hl => match us, hl with | [_], _ => rfl⟩
theorem f_World_told (c : He.SaysD fa fn K) : ∃ fd, Fun K "told" "World.told" sTold (He.ma K (He.ga K "World") "told") fd ∧ Binds K fd ["self", "number"] [] := by
  obtain ⟨fd, F⟩ := c.def_ 49 (d := d_World_told) rfl
  have F1 : Fun K "told" "World.told" sTold (He.ma K (He.ga K "World") "told") fd := He5.fun_of F
  exact ⟨fd, F1, F1.binds (ps := ["self", "number"]) fun _ _ _ _ _ _ us hl => match us, hl with | [_, _], _ => rfl⟩
theorem f_World_peers (c : He.SaysD fa fn K) : ∃ fd, Fun K "peers" "World.peers" sPeers (He.ma K (He.ga K "World") "peers") fd ∧ Binds K fd ["self", "number"] [] := by
  obtain ⟨fd, F⟩ := c.def_ 50 (d := d_World_peers) rfl
  have F1 : Fun K "peers" "World.peers" sPeers (He.ma K (He.ga K "World") "peers") fd := He5.fun_of F
  exact ⟨fd, F1, F1.binds (ps := ["self", "number"]) fun _ _ _ _ _ _ us hl => match us, hl with | [_, _], _ => rfl⟩
theorem f_World_followed (c : He.SaysD fa fn K) : ∃ fd, Fun K "followed" "World.followed" sFollowed (He.ma K (He.ga K "World") "followed") fd ∧ Binds K fd ["self", "number"] [] := by
  obtain ⟨fd, F⟩ := c.def_ 51 (d := d_World_followed) rfl
  have F1 : Fun K "followed" "World.followed" sFollowed (He.ma K (He.ga K "World") "followed") fd := He5.fun_of F
  exact ⟨fd, F1, F1.binds (ps := ["self", "number"]) fun _ _ _ _ _ _ us hl => match us, hl with | [_, _], _ => rfl⟩
theorem f_Bi (X : K.In h) (G : h.Ns mainGlobals mg) (c : He.SaysD fa fn K) : Bi mg := ⟨(He.free_ok X G (c.fact 0 (f := .free "isinstance") rfl)), (He.free_ok X G (c.fact 1 (f := .free "int") rfl)), (He.free_ok X G (c.fact 2 (f := .free "bool") rfl)), (He.free_ok X G (c.fact 3 (f := .free "str") rfl)), (He.free_ok X G (c.fact 4 (f := .free "dict") rfl)), (He.free_ok X G (c.fact 5 (f := .free "tuple") rfl)), (He.free_ok X G (c.fact 6 (f := .free "range") rfl)), (He.free_ok X G (c.fact 7 (f := .free "len") rfl)), (He.free_ok X G (c.fact 8 (f := .free "all") rfl)), (He.free_ok X G (c.fact 9 (f := .free "any") rfl)), (He.free_ok X G (c.fact 10 (f := .free "sorted") rfl))⟩
theorem f_Co (X : K.In h) (G : h.Ns mainGlobals mg) (c : He.SaysD fa fn K) : Co mg := ⟨He.str_ok X G (c.fact 53 (f := .str "LETTERS" letters) rfl), He.int_ok X G (c.fact 54 (f := .int "MOST_NODES" 60) rfl), He.int_ok X G (c.fact 55 (f := .int "MOST_DEPTH" 8) rfl)⟩
theorem f_No (X : K.In h) (G : h.Ns mainGlobals mg) (c : He.SaysD fa fn K) : No K mg (He.ga K "NoTree") := by
  obtain ⟨h1, h2, h3, h4⟩ := He.exc_ok (c.fact 67 (f := .exc "NoTree") rfl)
  exact ⟨(He.glo_ok X G (c.fact 45 (f := .glo "NoTree") rfl)), h1, h2, h3, h4, He.exm_ok (c.fact 68 (f := .exm "NoTree" "NoTree" true) rfl)⟩
theorem f_CnMount (c : He.SaysD fa fn K) : Cn K (He.ga K "Mount") mtN := ⟨He.cls_ok (c.fact 58 (f := .cls "Mount") rfl), fun f hf => He.noat_ok (c.facts (f := .noat "Mount" f) (by
  have m : He.Fa.noat "Mount" f ∈ mtN.map (fun f => He.Fa.noat "Mount" f) := List.mem_map_of_mem hf
  simp only [fa, fa6, List.mem_append]
  simp only [m, or_true, true_or]))⟩
theorem f_CnTable (c : He.SaysD fa fn K) : Cn K (He.ga K "Table") tbN := ⟨He.cls_ok (c.fact 59 (f := .cls "Table") rfl), fun f hf => He.noat_ok (c.facts (f := .noat "Table" f) (by
  have m : He.Fa.noat "Table" f ∈ tbN.map (fun f => He.Fa.noat "Table" f) := List.mem_map_of_mem hf
  simp only [fa, fa6, List.mem_append]
  simp only [m, or_true, true_or]))⟩
theorem f_CnWorld (c : He.SaysD fa fn K) : Cn K (He.ga K "World") woN := ⟨He.cls_ok (c.fact 60 (f := .cls "World") rfl), fun f hf => He.noat_ok (c.facts (f := .noat "World" f) (by
  have m : He.Fa.noat "World" f ∈ woN.map (fun f => He.Fa.noat "World" f) := List.mem_map_of_mem hf
  simp only [fa, fa6, List.mem_append]
  simp only [m, or_true, true_or]))⟩
theorem f_CnWalker (c : He.SaysD fa fn K) : Cn K (He.ga K "Walker") wkN := ⟨He.cls_ok (c.fact 57 (f := .cls "Walker") rfl), fun f hf => He.noat_ok (c.facts (f := .noat "Walker" f) (by
  have m : He.Fa.noat "Walker" f ∈ wkN.map (fun f => He.Fa.noat "Walker" f) := List.mem_map_of_mem hf
  simp only [fa, fa6, List.mem_append]
  simp only [m, or_true, true_or]))⟩
theorem f_Tr (X : K.In h) (G : h.Ns mainGlobals mg) (c : He.SaysD fa fn K) : Tr K mg (He.ga K "Tree") := ⟨He.cls_ok (c.fact 56 (f := .cls "Tree") rfl), He.noat_ok (c.fact 61 (f := .noat "Tree" "nodes") rfl), (He.glo_ok X G (c.fact 40 (f := .glo "Tree") rfl))⟩
theorem ex_all (e : exB K = true) : trB K (He.ga K "Tree") = true ∧ tupA K (He.ga K "KINDS") kindsL = true ∧ formB K = true := by
  obtain ⟨h1, h⟩ := He.ba e
  obtain ⟨h2, h3⟩ := He.ba h
  exact ⟨h1, h2, h3⟩
theorem f_TrI (X : K.In h) (G : h.Ns mainGlobals mg) (c : He.SaysD fa fn K) (e : exB K = true) : TrI K mg (He.ga K "Tree") := by
  have h := (ex_all e).1
  simp only [trB, Bool.and_eq_true, decide_eq_true_eq] at h
  obtain ⟨h1, h2, h3, h4, h5, h6⟩ := h
  exact ⟨(f_Tr X G c).cl, (f_Tr X G c).mgC, h1, h2, h3, h4, h5, h6⟩
theorem f_Kn (X : K.In h) (G : h.Ns mainGlobals mg) (c : He.SaysD fa fn K) (e : exB K = true) : Kn K mg := ⟨He.ga K "KINDS", (He.glo_ok X G (c.fact 46 (f := .glo "KINDS") rfl)), fun H => tupA_ok (ex_all e).2.1 H⟩
theorem f_Fm (X : K.In h) (G : h.Ns mainGlobals mg) (c : He.SaysT fa fn ts w K) (e : exB K = true) : Fm K w mg := by
  obtain ⟨es, n, D⟩ := c.tab 0 rfl
  obtain ⟨h1, h2⟩ := He.ba (ex_all e).2.2
  refine ⟨_, es, n, (He.glo_ok X G (c.d.fact 47 (f := .glo "FORMS") rfl)), D, fun p hp => ?_, fun z hz => of_decide_eq_true (List.all_eq_true.mp h2 z hz)⟩
  have h3 := List.all_eq_true.mp h1 p hp
  split at h3
  · rename_i t q
    exact ⟨t, q, fun H => tupA_ok h3 H⟩
  · cases h3
theorem f_Pl (X : K.In h) (G : h.Ns mainGlobals mg) (c : He.SaysD fa fn K) : Rp.Pl mg (He.ga K "do_mount") (He.ga K "do_bind") (He.ga K "do_bind_all") (He.ga K "do_move") (He.ga K "do_make") (He.ga K "do_make_all") := ⟨(He.glo_ok X G (c.fact 48 (f := .glo "do_mount") rfl)), (He.glo_ok X G (c.fact 49 (f := .glo "do_bind") rfl)), (He.glo_ok X G (c.fact 50 (f := .glo "do_bind_all") rfl)), (He.glo_ok X G (c.fact 51 (f := .glo "do_move") rfl)), (He.glo_ok X G (c.fact 27 (f := .glo "do_make") rfl)), (He.glo_ok X G (c.fact 52 (f := .glo "do_make_all") rfl))⟩
def tabs (K : PySem.W.Frag) : List (Addr × Str) := [(Hk.tP K "do_clone", qLam)]
def cps (K : PySem.W.Frag) : List (Addr × Addr) := [(Hk.tC K "do_clone", Hk.tP K "do_clone")]
theorem facts {f : Addr} (X : K.In h) (G : h.Ns mainGlobals mg) (hfa : mg ("law" : Str) = some (.ref f)) (cc : Hk.Says fa fn ts exB w K) :
    ∃ fd : FuncData, (∀ (s : Shared) (v : Value), BindsTo s fd ⟨[v], []⟩ [("_law_script", v)]) ∧ ∀ base : Heap, K.In base → base.Ns mainGlobals mg → (∀ p ∈ cps K, LamX.TabB base mg p.1 p.2) → FnOk P w K mg base CX0 15 f fd ["_law_script"] (spLaw K (tabs K)) := by
  have c : He.SaysD fa fn K := cc.t.d
  have e := cc.more
  have B := f_Bi X G c
  have Cc := f_Co X G c
  have cM := f_CnMount c
  have cT := f_CnTable c
  have cW := f_CnWorld c
  have cK := f_CnWalker c
  obtain ⟨dis_whole, Fis_whole, bis_whole⟩ := f_is_whole c
  obtain ⟨dis_name, Fis_name, bis_name⟩ := f_is_name c
  obtain ⟨dis_path, Fis_path, bis_path⟩ := f_is_path c
  obtain ⟨dis_absolute, Fis_absolute, bis_absolute⟩ := f_is_absolute c
  obtain ⟨dparts_of, Fparts_of, bparts_of⟩ := f_parts_of c
  obtain ⟨dnode_value, Fnode_value, bnode_value⟩ := f_node_value c
  obtain ⟨dspace_root, Fspace_root, bspace_root⟩ := f_space_root c
  obtain ⟨dwalk_in, Fwalk_in, bwalk_in⟩ := f_walk_in c
  obtain ⟨dis_entry, Fis_entry, bis_entry⟩ := f_is_entry c
  obtain ⟨dis_deed, Fis_deed, bis_deed⟩ := f_is_deed c
  obtain ⟨dmount_in, Fmount_in, bmount_in⟩ := f_mount_in c
  obtain ⟨ddo_make, Fdo_make, bdo_make⟩ := f_do_make c
  obtain ⟨dmake_one, Fmake_one, bmake_one⟩ := f_make_one c
  obtain ⟨ddo_clone, Fdo_clone, bdo_clone⟩ := f_do_clone c
  obtain ⟨dmake_deed, Fmake_deed, bmake_deed⟩ := f_make_deed c
  obtain ⟨dsure_deed, Fsure_deed, bsure_deed⟩ := f_sure_deed c
  obtain ⟨dare_trees, Fare_trees, bare_trees⟩ := f_are_trees c
  obtain ⟨d_law_cell_at, F_law_cell_at, b_law_cell_at⟩ := f__law_cell_at c
  obtain ⟨d_law_digit, F_law_digit, b_law_digit⟩ := f__law_digit c
  obtain ⟨d_law_due, F_law_due, b_law_due⟩ := f__law_due c
  obtain ⟨d_law_ended, F_law_ended, b_law_ended⟩ := f__law_ended c
  obtain ⟨d_law_made, F_law_made, b_law_made⟩ := f__law_made c
  obtain ⟨d_law_right, F_law_right, b_law_right⟩ := f__law_right c
  obtain ⟨dlaw, Flaw, blaw⟩ := f_law c
  obtain ⟨dTree__init__, FTree__init__, bTree__init__⟩ := f_Tree___init__ c
  obtain ⟨dWalker__init__, FWalker__init__, bWalker__init__⟩ := f_Walker___init__ c
  obtain ⟨dWalkeronward, FWalkeronward, bWalkeronward⟩ := f_Walker_onward c
  have MWalkeronward := He.meth_ok (c.fact 69 (f := .meth "Walker" "onward") rfl)
  obtain ⟨dWalkerstart, FWalkerstart, bWalkerstart⟩ := f_Walker_start c
  have MWalkerstart := He.meth_ok (c.fact 70 (f := .meth "Walker" "start") rfl)
  obtain ⟨dWalkerwalked, dsWalkerwalked, FWalkerwalked, bWalkerwalked, vWalkerwalked⟩ := f_Walker_walked c
  have MWalkerwalked := He.meth_ok (c.fact 71 (f := .meth "Walker" "walked") rfl)
  obtain ⟨dMount__init__, FMount__init__, bMount__init__⟩ := f_Mount___init__ c
  obtain ⟨dMountcopied, FMountcopied, bMountcopied⟩ := f_Mount_copied c
  have MMountcopied := He.meth_ok (c.fact 72 (f := .meth "Mount" "copied") rfl)
  obtain ⟨dMountkind, FMountkind, bMountkind⟩ := f_Mount_kind c
  have MMountkind := He.meth_ok (c.fact 73 (f := .meth "Mount" "kind") rfl)
  obtain ⟨dTable__init__, FTable__init__, bTable__init__⟩ := f_Table___init__ c
  obtain ⟨dTablecopied, FTablecopied, bTablecopied⟩ := f_Table_copied c
  have MTablecopied := He.meth_ok (c.fact 74 (f := .meth "Table" "copied") rfl)
  obtain ⟨dTablenext, FTablenext, bTablenext⟩ := f_Table_next c
  have MTablenext := He.meth_ok (c.fact 75 (f := .meth "Table" "next") rfl)
  obtain ⟨dTablemount, FTablemount, bTablemount⟩ := f_Table_mount c
  have MTablemount := He.meth_ok (c.fact 76 (f := .meth "Table" "mount") rfl)
  obtain ⟨dTablesure_space, FTablesure_space, bTablesure_space⟩ := f_Table_sure_space c
  have MTablesure_space := He.meth_ok (c.fact 77 (f := .meth "Table" "sure_space") rfl)
  obtain ⟨dTablesure_room, FTablesure_room, bTablesure_room⟩ := f_Table_sure_room c
  have MTablesure_room := He.meth_ok (c.fact 78 (f := .meth "Table" "sure_room") rfl)
  obtain ⟨dTablenew_mount, FTablenew_mount, bTablenew_mount⟩ := f_Table_new_mount c
  have MTablenew_mount := He.meth_ok (c.fact 79 (f := .meth "Table" "new_mount") rfl)
  obtain ⟨dTablestanding, FTablestanding, bTablestanding⟩ := f_Table_standing c
  have MTablestanding := He.meth_ok (c.fact 80 (f := .meth "Table" "standing") rfl)
  obtain ⟨dTablenew_group, FTablenew_group, bTablenew_group⟩ := f_Table_new_group c
  have MTablenew_group := He.meth_ok (c.fact 81 (f := .meth "Table" "new_group") rfl)
  obtain ⟨dTablejoin, FTablejoin, bTablejoin⟩ := f_Table_join c
  have MTablejoin := He.meth_ok (c.fact 82 (f := .meth "Table" "join") rfl)
  obtain ⟨dTablefollow, FTablefollow, bTablefollow⟩ := f_Table_follow c
  have MTablefollow := He.meth_ok (c.fact 83 (f := .meth "Table" "follow") rfl)
  obtain ⟨dTableunfollow, FTableunfollow, bTableunfollow⟩ := f_Table_unfollow c
  have MTableunfollow := He.meth_ok (c.fact 84 (f := .meth "Table" "unfollow") rfl)
  obtain ⟨dTableleave, FTableleave, bTableleave⟩ := f_Table_leave c
  have MTableleave := He.meth_ok (c.fact 85 (f := .meth "Table" "leave") rfl)
  obtain ⟨dTableend, FTableend, bTableend⟩ := f_Table_end c
  have MTableend := He.meth_ok (c.fact 86 (f := .meth "Table" "end") rfl)
  obtain ⟨dWorld__init__, dsWorld__init__, FWorld__init__, bWorld__init__, vWorld__init__⟩ := f_World___init__ c
  obtain ⟨dWorlddo, FWorlddo, bWorlddo⟩ := f_World_do c
  have MWorlddo := He.meth_ok (c.fact 87 (f := .meth "World" "do") rfl)
  obtain ⟨dWorldstood, FWorldstood, bWorldstood⟩ := f_World_stood c
  have MWorldstood := He.meth_ok (c.fact 88 (f := .meth "World" "stood") rfl)
  obtain ⟨dWorldtold, FWorldtold, bWorldtold⟩ := f_World_told c
  have MWorldtold := He.meth_ok (c.fact 89 (f := .meth "World" "told") rfl)
  obtain ⟨dWorldpeers, FWorldpeers, bWorldpeers⟩ := f_World_peers c
  have MWorldpeers := He.meth_ok (c.fact 90 (f := .meth "World" "peers") rfl)
  obtain ⟨dWorldfollowed, FWorldfollowed, bWorldfollowed⟩ := f_World_followed c
  have MWorldfollowed := He.meth_ok (c.fact 91 (f := .meth "World" "followed") rfl)
  have KTree := He.mkr_ok (c.fact 62 (f := .mkr "Tree") rfl)
  have KWalker := He.mkr_ok (c.fact 63 (f := .mkr "Walker") rfl)
  have KMount := He.mkr_ok (c.fact 64 (f := .mkr "Mount") rfl)
  have KTable := He.mkr_ok (c.fact 65 (f := .mkr "Table") rfl)
  have KWorld := He.mkr_ok (c.fact 66 (f := .mkr "World") rfl)
  have ef := hfa.symm.trans (He.glo_ok X G (c.fact 39 (f := .glo "law") rfl))
  cases ef
  have hzip := (He.free_ok X G (c.fact 11 (f := .free "zip") rfl))
  have hlist := (He.free_ok X G (c.fact 12 (f := .free "list") rfl))
  have hmax := (He.free_ok X G (c.fact 13 (f := .free "max") rfl))
  have hmin := (He.free_ok X G (c.fact 14 (f := .free "min") rfl))
  have henum := (He.free_ok X G (c.fact 15 (f := .free "enumerate") rfl))
  obtain ⟨oc1, od1, kV1, dc1, pm1, an1, cd1, ct1, sl1, e1, _, _⟩ := id Flaw.ex
  subst e1
  obtain ⟨oc2, od2, an2, kV2, dc2, pm2, ct2, sl2, e2, lk2, hc2⟩ := Hk.fun_ref Fdo_clone
  subst e2
  refine ⟨PySem.W.fnOf "law" "law" (defArgs sLaw) (defBody sLaw) (defScope sLaw) .none kV1 dc1 pm1 an1 cd1 ct1, fun s v => .of_eq rfl, fun base _ _ TB => ?_⟩
  have tb0 := TB _ (.head _)
  have uni : ∀ p ∈ tabs K, p.1 = Hk.tP K "do_clone" → p.2 = qLam := fun p hp _ => by rw [List.mem_singleton.mp hp]
  have cWh : Cm.Cl P w K mg base CX0 1 "is_whole" ["thing", "low", "high"] (spWhole K) := .of X G (He.eqO_ok (c.fact 16 (f := .glo "is_whole") rfl)) Fis_whole bis_whole (ok_whole Fis_whole B)
  have cNa : Cm.Cl P w K mg base CX0 1 "is_name" ["thing"] (spName K) := .of X G (He.eqO_ok (c.fact 17 (f := .glo "is_name") rfl)) Fis_name bis_name (ok_name Fis_name B Cc)
  have cPa : Cm.Cl P w K mg base CX0 2 "is_path" ["thing"] (spPath K) := .of X G (He.eqO_ok (c.fact 18 (f := .glo "is_path") rfl)) Fis_path bis_path (ok_path (k := 0) (fN := 0) (fdN := dis_name) Fis_path B cNa)
  have cAb : Cm.Cl P w K mg base CX0 1 "is_absolute" ["path"] spAbs := .of X G (He.eqO_ok (c.fact 19 (f := .glo "is_absolute") rfl)) Fis_absolute bis_absolute (ok_abs Fis_absolute)
  have cNo : Cm.Cl P w K mg base (L2.CX P w) 12 "node_value" ["thing", "depth", "met"] (spNode (He.ga K "NoTree") 9) := .of X G (He.eqO_ok (c.fact 21 (f := .glo "node_value") rfl)) Fnode_value bnode_value (ok_node Fnode_value (He.glo_ok X G (c.fact 21 (f := .glo "node_value") rfl)) bnode_value B Cc (f_No X G c) cWh cNa cPa 9)
  have cEn : Cm.Cl P w K mg base CX0 3 "is_entry" ["thing", "sort"] spEntry := .of X G (He.eqO_ok (c.fact 24 (f := .glo "is_entry") rfl)) Fis_entry bis_entry (ok_entry Fis_entry B (f_Kn X G c e) cPa cAb)
  have cDe : Cm.Cl P w K mg base CX0 4 "is_deed" ["thing"] spIsDeed := .of X G (He.eqO_ok (c.fact 25 (f := .glo "is_deed") rfl)) Fis_deed bis_deed (ok_isdeed Fis_deed B hzip (f_Fm X G cc.t e) cEn)
  have cTs : Cm.Cl P w K mg base CX0 2 "are_trees" ["thing"] (spTrees K (He.ga K "Tree")) := .of X G (He.eqO_ok (c.fact 32 (f := .glo "are_trees") rfl)) Fare_trees bare_trees (ok_trees Fare_trees B (f_TrI X G c e) cNa)
  have cPr : Cm.Cl P w K mg base CX0 1 "parts_of" ["path"] spParts := .of X G (He.eqO_ok (c.fact 20 (f := .glo "parts_of") rfl)) Fparts_of bparts_of (ok_parts Fparts_of)
  have oMI : FnOk P w K mg base CX0 1 _ _ ["self", "number", "space", "tree", "root"] (spMtI (He.ga K "Mount")) := ok_mtI FMount__init__ cM
  have oTI : FnOk P w K mg base CX0 1 _ _ ["self", "trees", "most"] (spTbI (He.ga K "Table")) := ok_tbI FTable__init__ cT
  have oNx : FnOk P w K mg base CX0 1 _ _ ["self", "what"] (spNext (He.ga K "Table")) := ok_next FTablenext cT
  have oNM0 : FnOk P w K mg base CX0 3 _ _ ["self", "space", "tree", "root"] (spNewM (He.ga K "Table") (He.ga K "Mount")) := ok_newM FTablenew_mount cT cM MTablenext oNx bTablenext KMount (He.glo_ok X G (c.fact 42 (f := .glo "Mount") rfl)) oMI bMount__init__
  have mNM : Rp.MT P w K mg base 3 (He.ga K "Table") "new_mount" ["self", "space", "tree", "root"] (spNM (He.ga K "Table") (He.ga K "Mount")) := ⟨_, _, MTablenew_mount, ok_nm FTablenew_mount cT cM MTablenext oNx bTablenext KMount (He.glo_ok X G (c.fact 42 (f := .glo "Mount") rfl)) oMI bMount__init__, bTablenew_mount⟩
  have hWoC : WoC P w K mg base (He.ga K "World") (He.ga K "Table") (He.ga K "Mount") (He.ga K "Tree") := ⟨cW, cT, cM, cTs, cNa, cWh, ⟨_, _, KTable, oTI, bTable__init__⟩, (He.glo_ok X G (c.fact 43 (f := .glo "Table") rfl)), ⟨_, _, MTablenew_mount, oNM0, bTablenew_mount⟩, ⟨_, _, MTablenext, oNx, bTablenext⟩⟩
  have oWI := ok_woI FWorld__init__ B hWoC mNM
  have mNG : Rp.MT P w K mg base 2 (He.ga K "Table") "new_group" ["self", "master"] (spNewG (He.ga K "Table") (He.ga K "Mount")) := ⟨_, _, MTablenew_group, ok_newG FTablenew_group cT MTablenext oNx bTablenext, bTablenew_group⟩
  have mJo : Rp.MT P w K mg base 1 (He.ga K "Table") "join" ["self", "mount", "group"] (spJoin (He.ga K "Table") (He.ga K "Mount")) := ⟨_, _, MTablejoin, ok_join FTablejoin cT cM, bTablejoin⟩
  have mFo : Rp.MT P w K mg base 1 (He.ga K "Table") "follow" ["self", "mount", "group"] (spFollow (He.ga K "Table") (He.ga K "Mount")) := ⟨_, _, MTablefollow, ok_follow FTablefollow cT cM, bTablefollow⟩
  have mUn : Rp.MT P w K mg base 1 (He.ga K "Table") "unfollow" ["self", "mount"] (spUnf (He.ga K "Table") (He.ga K "Mount")) := ⟨_, _, MTableunfollow, ok_unf FTableunfollow cT cM, bTableunfollow⟩
  have mEn : Rp.MT P w K mg base 2 (He.ga K "Table") "end" ["self", "group"] (spEnd (He.ga K "Table") (He.ga K "Mount")) := ⟨_, _, MTableend, ok_end FTableend cT cM mFo, bTableend⟩
  have mLe : Rp.MT P w K mg base 3 (He.ga K "Table") "leave" ["self", "mount"] (spLeave (He.ga K "Table") (He.ga K "Mount")) := ⟨_, _, MTableleave, ok_leave FTableleave cT cM mEn, bTableleave⟩
  have hTm : Tm P w K mg base (He.ga K "Table") (He.ga K "Mount") := ⟨cT, cM, mNG, mJo, mFo, mUn, mLe⟩
  have cMk : Cm.Cl P w K mg base CX0 4 "make_one" ["table", "mount", "kind"] (spMk (He.ga K "Table") (He.ga K "Mount")) := .of X G (He.eqO_ok (c.fact 28 (f := .glo "make_one") rfl)) Fmake_one bmake_one (ok_mk Fmake_one hTm)
  have mSR : Rp.MT P w K mg base 1 (He.ga K "Table") "sure_room" ["self", "more"] (spRoom (He.ga K "Table") (He.ga K "Mount")) := ⟨_, _, MTablesure_room, ok_room FTablesure_room B cT, bTablesure_room⟩
  have mSS : Rp.MT P w K mg base 1 (He.ga K "Table") "sure_space" ["self", "space"] (spSureS (He.ga K "Table") (He.ga K "Mount")) := ⟨_, _, MTablesure_space, ok_sureS FTablesure_space B cT, bTablesure_space⟩
  have mMo : Rp.MT P w K mg base 1 (He.ga K "Table") "mount" ["self", "number"] (Rp.spMount (He.ga K "Table") (He.ga K "Mount")) := ⟨_, _, MTablemount, ok_mount FTablemount B cT, bTablemount⟩
  have mSd : Rp.MT P w K mg base 1 (He.ga K "Table") "standing" ["self", "number", "node"] (spStand (He.ga K "Table") (He.ga K "Mount")) := ⟨_, _, MTablestanding, ok_stand FTablestanding cT, bTablestanding⟩
  have mKi : Rp.MT P w K mg base 1 (He.ga K "Mount") "kind" ["self", "masters"] (spKindM (He.ga K "Table") (He.ga K "Mount")) := ⟨_, _, MMountkind, ok_kindM FMountkind cM, bMountkind⟩
  have mMC : Rp.MT P w K mg base 3 (He.ga K "Mount") "copied" ["self"] (spMtC (He.ga K "Mount")) := ⟨_, _, MMountcopied, ok_mtC FMountcopied cM KMount (He.glo_ok X G (c.fact 42 (f := .glo "Mount") rfl)) oMI bMount__init__, bMountcopied⟩
  have mTC : Rp.MT P w K mg base 4 (He.ga K "Table") "copied" ["self"] (Rp.spTbC (He.ga K "Table") (He.ga K "Mount")) := ⟨_, _, MTablecopied, ok_tbC FTablecopied B cT cM (He.glo_ok X G (c.fact 43 (f := .glo "Table") rfl)) ⟨_, _, KTable, oTI, bTable__init__⟩ mMC, bTablecopied⟩
  have oWk : FnOk P w K mg base CX0 1 _ _ ["self", "table", "root"] (spWkI (He.ga K "Walker")) := ok_wkI FWalker__init__ cK
  have mOn : Rp.MT P w K mg base 2 (He.ga K "Walker") "onward" ["self", "here"] (spOnw (He.ga K "Walker") (He.ga K "Table") (He.ga K "Mount")) := ⟨_, _, MWalkeronward, ok_onw FWalkeronward cK cT mSd, bWalkeronward⟩
  have mSt : Rp.MT P w K mg base 3 (He.ga K "Walker") "start" ["self", "here", "path"] (spStart (He.ga K "Walker") (He.ga K "Table") (He.ga K "Mount")) := ⟨_, _, MWalkerstart, ok_start FWalkerstart cK cAb mOn, bWalkerstart⟩
  have oWd : FnOk P w K mg base CX0 4 _ _ ["self", "here", "path", "last"] (spWd (He.ga K "Walker") (He.ga K "Table") (He.ga K "Mount")) := ok_wd FWalkerwalked henum cK cPr mSt
  have cSp : Cm.Cl P w K mg base CX0 1 "space_root" ["table", "space"] (spSR (He.ga K "Table") (He.ga K "Mount")) := .of X G (He.eqO_ok (c.fact 22 (f := .glo "space_root") rfl)) Fspace_root bspace_root (ok_sr Fspace_root cT cM)
  have cWi : Cm.Cl P w K mg base CX0 5 "walk_in" ["table", "space", "path"] (spWIn (He.ga K "Table") (He.ga K "Mount")) := .of X G (He.eqO_ok (c.fact 23 (f := .glo "walk_in") rfl)) Fwalk_in bwalk_in (ok_wi Fwalk_in cK (He.glo_ok X G (c.fact 41 (f := .glo "Walker") rfl)) cSp ⟨_, _, KWalker, oWk, bWalker__init__⟩ ⟨_, _, dsWalkerwalked, MWalkerwalked, oWd, bWalkerwalked, vWalkerwalked⟩)
  have cMi : Cm.Cl P w K mg base CX0 6 "mount_in" ["table", "space", "path"] (spMIn (He.ga K "Table") (He.ga K "Mount")) := .of X G (He.eqO_ok (c.fact 26 (f := .glo "mount_in") rfl)) Fmount_in bmount_in (ok_mi Fmount_in cT cM cWi)
  have oDM : FnOk P w K mg base CX0 7 _ _ ["table", "space", "path", "kind"] (spDoMake (He.ga K "Table") (He.ga K "Mount")) := ok_doMake Fdo_make cMk cMi
  have oDC := ok_clone (P := P) (w := w) (base := base) (T := tabs K) lk2 hc2 B hTm mSR mNM tb0 (.head _) uni
  have cDC : Cm.Cl P w K mg base CX0 7 "do_clone" ["table", "space", "trusted"] (spClone (tabs K) (He.ga K "Table") (He.ga K "Mount")) := .of X G (He.eqO_ok (c.fact 29 (f := .glo "do_clone") rfl)) Fdo_clone bdo_clone oDC
  have cMD : Cm.Cl P w K mg base CX0 8 "make_deed" ["table", "deed", "stood"] (spMD (tabs K) (He.ga K "Table") (He.ga K "Mount")) := .of X G (He.eqO_ok (c.fact 30 (f := .glo "make_deed") rfl)) Fmake_deed bmake_deed (ok_MD Fmake_deed cT mSS (f_Pl X G c) oDM Fdo_make.kp bdo_make cDC)
  have cSu : Cm.Cl P w K mg base CX0 5 "sure_deed" ["thing"] spSure := .of X G (He.eqO_ok (c.fact 31 (f := .glo "sure_deed") rfl)) Fsure_deed bsure_deed (ok_sure Fsure_deed cDe)
  have mSo : Rp.MT P w K mg base 1 (He.ga K "World") "stood" ["self"] (spStood (He.ga K "World")) := ⟨_, _, MWorldstood, ok_stood FWorldstood cW, bWorldstood⟩
  have mDo : Rp.MT P w K mg base 9 (He.ga K "World") "do" ["self", "deed"] (spDo (tabs K) (He.ga K "World") (He.ga K "Table") (He.ga K "Mount")) := ⟨_, _, MWorlddo, ok_do FWorlddo cW cT cSu mTC cMD mSo, bWorlddo⟩
  have mTo : Rp.MT P w K mg base 2 (He.ga K "World") "told" ["self", "number"] (spTold (He.ga K "World") (He.ga K "Table") (He.ga K "Mount")) := ⟨_, _, MWorldtold, ok_told FWorldtold cW cT cM mMo mKi, bWorldtold⟩
  have mPe : Rp.MT P w K mg base 2 (He.ga K "World") "peers" ["self", "number"] (spPeers (He.ga K "World") (He.ga K "Table") (He.ga K "Mount")) := ⟨_, _, MWorldpeers, ok_peers FWorldpeers B cW cT cM mMo, bWorldpeers⟩
  have mFw : Rp.MT P w K mg base 2 (He.ga K "World") "followed" ["self", "number"] (spFollowed (He.ga K "World") (He.ga K "Table") (He.ga K "Mount")) := ⟨_, _, MWorldfollowed, ok_followed FWorldfollowed B cW cT cM mMo, bWorldfollowed⟩
  have cDg : Cm.Cl P w K mg base CX0 1 "_law_digit" ["_law_state", "_law_base"] spDigit := .of X G (He.eqO_ok (c.fact 34 (f := .glo "_law_digit") rfl)) F_law_digit b_law_digit (ok_digit F_law_digit B)
  have cCe : Cm.Cl P w K mg base CX0 1 "_law_cell_at" ["_law_script", "_law_k"] (Tx.spCell K) := .of X G (He.eqO_ok (c.fact 33 (f := .glo "_law_cell_at") rfl)) F_law_cell_at b_law_cell_at (ok_cell F_law_cell_at B)
  have cDu : Cm.Cl P w K mg base CX0 1 "_law_due" ["_law_groups", "_law_over", "_law_after", "_law_k"] spDue := .of X G (He.eqO_ok (c.fact 35 (f := .glo "_law_due") rfl)) F_law_due b_law_due (ok_due F_law_due B)
  have cEd : Cm.Cl P w K mg base CX0 2 "_law_ended" ["_law_groups", "_law_over", "_law_after"] spEnded := .of X G (He.eqO_ok (c.fact 36 (f := .glo "_law_ended") rfl)) F_law_ended b_law_ended (ok_ended F_law_ended B hlist)
  have cMa : Cm.Cl P w K mg base CX0 3 "_law_made" ["_law_groups", "_law_over", "_law_after", "_law_k", "_law_kind", "_law_group"] spMade := .of X G (He.eqO_ok (c.fact 37 (f := .glo "_law_made") rfl)) F_law_made b_law_made (ok_made F_law_made cEd)
  have cRi : Cm.Cl P w K mg base CX0 3 "_law_right" ["_law_world", "_law_groups", "_law_over", "_law_after", "_law_marked"] (spRight (He.ga K "World") (He.ga K "Table") (He.ga K "Mount")) := .of X G (He.eqO_ok (c.fact 38 (f := .glo "_law_right") rfl)) F_law_right b_law_right (ok_right F_law_right cW cDu mTo mPe mFw)
  have D : Lw P w K mg base (tabs K) (He.ga K "World") (He.ga K "Table") (He.ga K "Mount") (He.ga K "Tree") (He.ga K "NoTree") := ⟨cCe, cDg, cMa, cRi, ⟨_, _, KTree, ok_init FTree__init__ B (f_Tr X G c) (f_No X G c) cNo, bTree__init__⟩, (He.glo_ok X G (c.fact 40 (f := .glo "Tree") rfl)), ⟨_, _, dsWorld__init__, KWorld, oWI, bWorld__init__, vWorld__init__⟩, (He.glo_ok X G (c.fact 44 (f := .glo "World") rfl)), cW, mDo⟩
  exact ok_law Flaw B hmax hmin D
end
end Hx
set_option autoImplicit true
set_option Elab.async false
set_option linter.all false
set_option maxRecDepth 100000
set_option maxHeartbeats 0
namespace Hx
open PySem PySem.Spec PyProof.Rows L2 Tx Rp
theorem runT (w : World) : HandSHeadRun.RunEq R (PySem.W.view R.prog [83]) hk ob 60000 loose (w.withFollow "special-get-raises" true) := by
  intro os
  kernel_rfl
theorem run (w : World) : HandSHeadRun.RunEq R (PySem.W.view R.prog [83]) hk ob 60000 loose w :=
  PySem.W.byRow2 "special-get-raises" (P := fun w => HandSHeadRun.RunEq R (PySem.W.view R.prog [83]) hk ob 60000 loose w) runF runT w
theorem hsp {K : PySem.W.Frag} (H : Hp) (a : Addr) (ns : List Int) (hl : ns.length ≤ 63) (hH : ∀ p ∈ cps K, H p.2 = some (.tbl #[])) (hS : SqL K H a (ns.map V.int)) : spLaw K (tabs K) [.ref a] H (fun v _ => v = .bl true) fun _ _ _ => False :=
  ⟨a, ns, rfl, hS, hl, fun p hp => by
    rw [List.mem_singleton.mp hp]
    exact LamX.TabS.nil (hH _ (.head _)), fun _ => rfl⟩
end Hx
open PySem PySem.W PySem.Calls PyProof.Rows
set_option maxRecDepth 100000 in
set_option maxHeartbeats 0 in
theorem PySem.Challenge.cw_spreadmounts_k28_groups_that_end_holds : PySem.Challenge.rw_spreadmounts_k28_groups_that_end.Holds := by
  w_on; o_law
  refine HandSHeadRun.head_any (r := OpenLaw.row PySem.Challenge.rw_spreadmounts_k28_groups_that_end) (q := view (OpenLaw.row PySem.Challenge.rw_spreadmounts_k28_groups_that_end).prog [83]) (H := Hx.hk) (ob := Hx.ob) (M := 60000) (loose := Hx.loose) (d := HandSHeadRun.topDef (OpenLaw.row PySem.Challenge.rw_spreadmounts_k28_groups_that_end).prog 83) (kwd := []) Hx.ob_eq
    (by kernel_rfl) (fun s => by kernel_rfl) Hx.run (by kernel_rfl) (by kernel_rfl) (by kernel_rfl) (by rfl) (by first | assumption | decide +kernel) (by decide +kernel) ⟨rfl, rfl, rfl, rfl, rfl, by decide +kernel⟩ ?hw ?hc
  case hw => w_witness2
  case hc =>
    refine Hk.walk_ofTE (l := PySem.Challenge.rw_spreadmounts_k28_groups_that_end) (n := 63) (k := 15) (x := "_law_script") (CX := L2.CX0) rfl (by decide) (by kernel_rfl) ⟨rfl, by decide, by decide⟩ ?F (fun _ _ _ _ z => z)
    intro w mg fa h Y G hmg0
    obtain ⟨K, KX, c, tb⟩ := Y
    have hmg : mg ("law" : PySem.Str) = some (.ref fa) := by
      have e : (HandSHeadRun.topDef (OpenLaw.row PySem.Challenge.rw_spreadmounts_k28_groups_that_end).prog 83).name = ("law" : PySem.Str) := by kernel_rfl
      rw [← e]
      exact hmg0
    obtain ⟨fd, hb, hF⟩ := Hx.facts (P := (PySem.Challenge.rw_spreadmounts_k28_groups_that_end).prog) (w := w) KX G hmg c
    have t1 := tb "do_clone" (.head _)
    have one : ∀ {φ : Addr × Addr → Prop}, φ (Hk.tC K "do_clone", Hk.tP K "do_clone") → ∀ p ∈ Hx.cps K, φ p := fun h1 p hp => by
      rw [List.mem_singleton.mp hp]
      exact h1
    exact ⟨K, Hx.cps K, fd, Rp.spLaw K (Hx.tabs K), KX, one t1.tab, one t1.no, one (PySem.W.codeHd_of_K KX t1.hd), hb, fun H a ns hl hH hS => Hx.hsp H a ns hl hH hS, hF⟩
