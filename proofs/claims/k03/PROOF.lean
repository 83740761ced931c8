import PyProof.Rows.All
import Wide.All
import OpenK.AllK
import Wide.FinOn
import HandS.ForMost
import HandS.Exc
import HandS.TryOnly
import HandS.TryMany
import HandS.ExcOwn
import HandS.WordsExc
import HandS.IsInst
import HandS.Wide
import HandS.Codes
import HandS.Evl
import HandS.Walk
import HandS.EndBits
import HandS.StrMore
import HandS.ExcIs
import HandS.DictComp
import KE.GoesComp
import KE.GoesRaise
import KE.KDictDisplayH
import HandS.More
import HandS.WordsDict
import HandS.DictSub
import HandS.TupAny
import HandS.Style
import PySem.Challenge.RW_spreadmounts_k03_paths_and_links
set_option Elab.async false
set_option linter.all false
set_option maxRecDepth 100000
set_option maxHeartbeats 4000000
namespace Cm
open PySem PySem.Spec PyProof.Rows L2
/-- all but l is as it was -/
def But (l : Addr) (H H' : Hp) : Prop := ∀ b o, b ≠ l → H b = some o → H' b = some o
theorem But.refl (l : Addr) (H : Hp) : But l H H := fun _ _ _ h => h
theorem But.trans {l : Addr} {H H1 H2 : Hp} (a : But l H H1) (b : But l H1 H2) : But l H H2 := fun c o n h => b c o n (a c o n h)
theorem But.upd {l : Addr} {H : Hp} {o : HO} : But l H (upd H l o) := fun b u n h => by rw [upd_ne n]; exact h
theorem But.new {l p : Addr} {H : Hp} {o : HO} (h : H p = none) : But l H (L2.upd H p o) := fun b u n e => by rw [upd_ne (ne_of_none e h)]; exact e
theorem mod_nat {x b : Int} (h : 0 < b) : ∃ d : Nat, (d : Int) < b ∧ x % b = (d : Int) := by
  have h1 := Int.emod_nonneg x (show b ≠ 0 by omega)
  have h2 := Int.emod_lt_of_pos x h
  exact ⟨(x % b).toNat, by omega, by omega⟩
theorem same_new {H : Hp} {p : Addr} {o : HO} (h : H p = none) : Same H (upd H p o) := fun b x e => by
  rw [upd_ne (ne_of_none e h)]
  exact e
theorem same_mut {H H' : Hp} {p : Addr} {o : HO} (h : H p = none) (s : Same H H') : Same H (upd H' p o) := fun b x e => by
  rw [upd_ne (ne_of_none e h)]
  exact s b x e
theorem Same.but {H H' : Hp} (l : Addr) (s : Same H H') : But l H H' := fun b o _ h => s b o h
/-! ### statements by what holds ahead and behind -/
def Ho (X : Cx) (st : Stmt) (p q : L2.St → Hp → Prop) : Prop := ∃ t, PS X st t ∧ ∀ (D : Ends) σ H, p σ H → (∀ σ' H', q σ' H' → D.nx σ' H') → t D σ H
def HoR (X : Cx) (sts : List Stmt) (p : L2.St → Hp → Prop) (r : VK) : Prop := ∃ t, PSs X sts t ∧ ∀ (D : Ends) σ H, p σ H → (∀ v H', r v H' → D.rt v H') → t D σ H
theorem HoR.cons {X : Cx} {st : Stmt} {rest : List Stmt} {p q : L2.St → Hp → Prop} {r : VK} (a : Ho X st p q) (b : HoR X rest q r) : HoR X (st :: rest) p r := by
  obtain ⟨t, ht, h1⟩ := a
  obtain ⟨u, hu, h2⟩ := b
  exact ⟨_, pss_cons ht hu, fun D σ H hp hr => h1 _ σ H hp fun σ' H' hq => h2 D σ' H' hq hr⟩
/-- a def, called by its name -/
structure Cl (P : Program) (w : World) (K : PySem.W.Frag) (mg : Str → Option Value) (base : Heap) (CX : CXT) (k : Nat) (x : Str) (ps : List Str) (sp : Sp) : Prop where
  ex : ∃ f fd, FnOk P w K mg base CX k f fd ps sp ∧ mg x = some (.ref f) ∧ PySem.W.keepIn K (.ref f) = true ∧ Binds K fd ps []
section
variable {X : Cx} {CX : CXT} {k j : Nat} {x : Str} {ps : List Str} {sp : Sp} {e : Expr} {es : List Expr} {t : TA} {p pos : Pos} {E : XK}
theorem pe_cl (c : Cl X.prog X.w X.K X.mg X.base CX k x ps sp) (hr : Room j X.A) (hk : k ≤ j) (hg : Gl X x) (hx : Passes CX X E) (ha : PA X (e :: es) t)
    (hdb : (x == ("__debug__" : Str)) = false := by decide) (he : starEach (e :: es) X.env = (false, eval e X.env) :: starEach es X.env := by rfl) (hpl : (backTo pos (starEach es X.env)).any (·.1) = false := by rfl) :
    PE X (.Call (.Name x p) (e :: es) [] pos) (tCall sp [] E t) := by
  obtain ⟨f, fd, F, hm, kp, b⟩ := c.ex
  exact pe_call F (hr.mono hk) hg hm kp b .nil hx ha hdb he hpl
theorem pe_cl0 (c : Cl X.prog X.w X.K X.mg X.base CX k x ps sp) (hr : Room j X.A) (hk : k ≤ j) (hg : Gl X x) (hx : Passes CX X E)
    (hdb : (x == ("__debug__" : Str)) = false := by decide) : PE X (.Call (.Name x p) [] [] pos) (tCall sp [] E tNil) := by
  obtain ⟨f, fd, F, hm, kp, b⟩ := c.ex
  exact pe_call0 F (hr.mono hk) hg hm kp b .nil hx hdb
end
/-- xs + ys, lists that are read -/
def rCatS (K : PySem.W.Frag) : R2 := fun x y H Q => ∃ l b xs zs, x = .ref l ∧ y = .ref b ∧ SqL K H l xs ∧ SqL K H b zs ∧ xs.length + zs.length ≤ sizeLine ∧ ∀ p, H p = none → Q (.ref p) (upd H p (.lst (xs ++ zs)))
theorem op_catS {X : Cx} : OpR X (binaryOp .Add) (rCatS X.K) := by
  intro pins s σ H x y v u Q I rx ry h
  obtain ⟨l, b, xs, zs, rfl, rfl, hl, hb, hz, q⟩ := h
  cases rx
  cases ry
  obtain ⟨its, r, ⟨⟨c1, d1, t1, sl1⟩, n1, e1, k1, m1, f1⟩, z1⟩ := I.list hl
  obtain ⟨its2, r2, ⟨⟨c2, d2, t2, sl2⟩, n2, e2, k2, m2, f2⟩, z2⟩ := I.list hb
  dsimp only at k1 m1 f1 k2 m2 f2
  subst k1 m1 f1 k2 m2 f2
  have hl1 := r.length
  have hl2 := r2.length
  refine concat_meets ⟨_, e1, rfl⟩ ⟨_, e2, rfl⟩ noFill_list_add seq_list_add PySem.F.slot_list_add PySem.F.entry_list_add (PySem.F.args_list_add_2 _ _) (list_addW l b its.toArray its2.toArray n1 n2 none none sl1 sl2 (by rw [List.size_toArray, List.size_toArray, ← hl1, ← hl2]; exact hz)) ⟨e1, e2, ?_⟩
  have ea : its.toArray ++ its2.toArray = (its ++ its2).toArray := by simp
  rw [ea]
  exact ⟨.ref _, _, I.lnew (t' := s.toks) (r.append r2) (by rw [List.length_append]; exact hz), rfl, q _ I.fresh⟩
/-- a def of the top -/
structure FnFact (K : PySem.W.Frag) (x : Str) (st : Stmt) : Prop where
  ex : ∃ f fd, PySem.W.nsIn K mainGlobals x = some (some (.ref f)) ∧ Fun K x x st f fd
theorem FnFact.of {K : PySem.W.Frag} {x : Str} {st : Stmt} {f : Addr} {oc : Value} {od an : Option Addr} {sl : Array (Option Value)} {kV dc pm cd ct : Value} (a : PySem.W.nsIn K mainGlobals x = some (some (.ref f)))
    (l : K.lookup f = some ⟨oc, od, .func (PySem.W.fnOf x x (defArgs st) (defBody st) (defScope st) .none kV dc pm an cd ct), sl⟩) (c : PySem.W.codeIn K cd x = true) (k : PySem.W.keepIn K (.ref f) = true) : FnFact K x st :=
  ⟨f, _, a, fun_mk l c k⟩
theorem Cl.of {P : Program} {w : World} {K : PySem.W.Frag} {mg : Str → Option Value} {base : Heap} {CX : CXT} {k : Nat} {x : Str} {st : Stmt} {f : Addr} {fd : FuncData} {ps : List Str} {sp : Sp} {h : Heap} (X : K.In h) (G : h.Ns mainGlobals mg) (a : PySem.W.nsIn K mainGlobals x = some (some (.ref f)))
    (F : Fun K x x st f fd) (b : Binds K fd ps []) (o : FnOk P w K mg base CX k f fd ps sp) : Cl P w K mg base CX k x ps sp := ⟨f, fd, o, PySem.W.mg_of X G a, F.kp, b⟩
/-- the state of the draws -/
def StOk (st : List V) : Prop := (∃ c, st = [.int c]) ∨ ∃ a b c, st = [.int a, .int b, .int c]
/-- _law_digit -/
def spDigit : Sp := fun vs H Q _ => ∃ l st base, vs = [.ref l, .int base] ∧ H l = some (.lst st) ∧ StOk st ∧ 0 < base ∧ base < 1073741824 ∧
  ∀ (d : Nat) st' H', (d : Int) < base → StOk st' → H' l = some (.lst st') → But l H H' → Q (.int d) H'
/-- the state's list, all else as at the entry -/
structure Bs (H : Hp) (l : Addr) (H' : Hp) : Prop where
  st : ∃ st, H' l = some (.lst st) ∧ StOk st
  but : But l H H'
theorem Bs.same {H H1 H2 : Hp} {l : Addr} (b : Bs H l H1) (s : Same H1 H2) : Bs H l H2 := ⟨let ⟨st, h, o⟩ := b.st; ⟨st, s _ _ h, o⟩, b.but.trans (Same.but l s)⟩
theorem Bs.trans {H H1 H2 : Hp} {l : Addr} (a : Bs H l H1) (b : Bs H1 l H2) : Bs H l H2 := ⟨b.st, a.but.trans b.but⟩
end Cm
set_option Elab.async false
set_option linter.all false
set_option maxRecDepth 100000
set_option maxHeartbeats 4000000
/-! A dict comprehension whose values may raise out of a call. -/
namespace DcE
open PySem PySem.Spec PyProof.Rows L2
section
variable {X : Cx} {pins : List (Addr × Obj)} {σ : L2.St} {H : Hp} {s s' : Shared} {E : XK} {u : Value}
theorem flies (I : Inv X pins σ H s) (c : L2.CX X.prog X.w X.stack H s E u s') :
    ∃ (a : Addr) (B : Heap) (sI : Shared) (pn : List (Addr × Obj)) (σ' : L2.St) (H' : Hp) (cls : Value) (d : Option Addr), u = .ref a ∧ Inv X pn σ' H' sI ∧ (∀ b o, sI.heap.get? b = some o → b ∉ frs X.stack → B.get? b = some o) ∧
      sI.heap.UpToSlots s'.heap ∧ HandSPX.FlyingZ B X.stack a (Zc cls d) s'.heap ∧ H' a = none ∧ s'.os = sI.os ∧ AllBare s'.gens ∧ E cls d H' := by
  obtain ⟨a0, B0, H0, cls0, d0, e0, ⟨_, _, _, oe0, vs0, T0, oT0, ts0, he0, _, hd0, h10, _, _, hT0, hdT0, h30⟩, _⟩ := id c
  obtain ⟨a, B, sI, pn, σ', H', cls, d, e, I', nb, up, sky, na, os, ag, w⟩ := XE.of_call (W := fun cls d _ H => E cls d H) I (fun _ _ _ h => h) c
  have ea : a0 = a := by
    rw [e] at e0
    injection e0 with q
    exact q.symm
  rw [ea] at he0
  have fl : HandSPX.FlyingZ B X.stack a (Zc cls d) s'.heap := by
    rcases sky with ⟨_, _, _, oe, vs, he, _, hd, h1⟩ | fl | ⟨_, _, _, oe, vs, T, oT, ts, he, _, hd, h1, _, _, hT, hdT, h3⟩
    · exfalso
      rw [he0] at he
      cases he
      rw [hd0] at hd
      cases hd
      rw [h10] at h1
      cases h1
    · exact fl
    · exfalso
      rw [he0] at he
      cases he
      rw [hd0] at hd
      cases hd
      rw [h10] at h1
      cases h1
      rw [hT0] at hT
      cases hT
      rw [hdT0] at hdT
      cases hdT
      rw [h30] at h3
      cases h3
  exact ⟨a, B, sI, pn, σ', H', cls, d, e, I', nb, up, fl, na, os, ag, w⟩
theorem but_one (h : Heap) (C : Addr) : ∃ G : Heap, (∀ b, b ≠ C → G.get? b = h.get? b) ∧ G.get? C = none := by
  obtain ⟨G, g1, g2⟩ := restrict h fun b => decide (b ≠ C)
  exact ⟨G, fun b hb => g1 b (decide_eq_true hb), g2 C (by simp)⟩
/-- out of the block: noted, the block let go, on in the def's own frame -/
theorem out {σ8 : L2.St} {H3 H8 : Hp} {s3 s8 : Shared} {scope : Scope} {ce : Env} {fp : List Addr} {use : Option (Value → Sem Unit)} {Qf : Value → Shared → Prop} {D : Value} {pn : List (Addr × Obj)} {xe : Value → Shared → Prop}
    (tk : Takes X (fun cls d _ H => E cls d H)) (hs : X.stack = X.env :: X.outer) (hf : X.env.frame = some X.env.locals) (hcf : ce.frame = X.env.frame) (cL : ce.locals = s3.heap.objs.size) (I3 : Inv X pins σ H3 s3) (f3 : ∀ b ∈ fp, FpOk X pins H3 b)
    (I8 : Inv ((X.blk s3 H3 scope ce fp).wish xe) pn σ8 H8 s8) (c : L2.CX X.prog X.w X.stack H8 s8 E u s') :
    notedBy (model X.prog X.w) X.A ce (fun e s2 => compEnds (model X.prog X.w) X.A X.xe use Qf D ce (.error e) s2) u s' := by
  obtain ⟨a, B, sI, pn', σ', H', cls, d, rfl, I, nb, up, fl, na, os, ag, hE⟩ := flies I8 c
  obtain ⟨m, hn, _⟩ := I.loc
  have hn : sI.heap.Ns ce.locals m := hn
  have fl : HandSPX.FlyingZ B X.stack a (Zc cls d) s'.heap := fl
  have nb : ∀ b o, sI.heap.get? b = some o → b ∉ frs X.stack → B.get? b = some o := nb
  have hfr : X.A.frames = some (X.env :: X.outer) := by rw [I3.ok.frames, hs]
  show wpAny _ _ (noteFrame (.ref a) ce) _ _ s'
  rw [noteFrame_env _ hcf]
  refine HandSPX.looks_onZ Zc.steady hfr hf (by rw [← hs]; exact fl) fun h1 hh up1 => ?_
  have hn1 : h1.Ns ce.locals m := Heap.Ns.upToSlots (Heap.Ns.upToSlots hn up) up1
  suffices q : CompFails (model X.prog X.w) X.A X.xe ce (.ref a) { s' with heap := h1 } by
    cases use <;> exact q
  refine ⟨m, hn1, fun h2 m2 hn2 hs2 => ?_⟩
  obtain ⟨b1, b0, f1, oe, vs, T, oT, ts, he, hz, hd, hv1, hnT, hTe, hT, hdT, h3⟩ := hh
  obtain ⟨B2, g1, g2⟩ := but_one B ce.locals
  obtain ⟨G2, k1, k2⟩ := but_one sI.heap ce.locals
  obtain ⟨oL, es, ep, hoL, hdL, _⟩ := hn1
  have naC : a ≠ ce.locals := fun z => by
    rw [z, hoL] at he
    cases he
    rw [hdL] at hd
    cases hd
  have nTC : T ≠ ce.locals := fun z => by
    rw [z, hoL] at hT
    cases hT
    rw [hdL] at hdT
    cases hdT
  have toB : ∀ b o, B2.get? b = some o → b ≠ ce.locals ∧ B.get? b = some o := fun b o e => by
    have nbC : b ≠ ce.locals := fun z => by
      rw [z, g2] at e
      cases e
    exact ⟨nbC, (g1 b nbC).symm.trans e⟩
  have noB : ∀ b, B.get? b = none → B2.get? b = none := fun b e => by
    cases q : B2.get? b with
    | none => rfl
    | some o =>
      rw [(toB b o q).2] at e
      cases e
  have st2 : B2.StaysIn h2 := fun b o e => (hs2.2 b (toB b o e).1).trans (b1 b o (toB b o e).2)
  have ff2 : h2.FunFrames B2 (X.env :: X.outer) := funFrames_none (Heap.FunFrames.sameBut hs2 hn2 f1) fun L hL => by
    obtain ⟨hb, _⟩ := f1.mem hL
    exact noB L hb
  have tr2 : HandSPX.TracedZ h2 B2 a (Zc cls d) (rawInt X.env.locals) := ⟨oe, vs, T, oT, ts, (hs2.2 a naC).trans he, hz, hd, hv1, noB T hnT, hTe, (hs2.2 T nTC).trans hT, hdT, h3⟩
  unfold PySem.passOn
  refine wpAny_bind (wpAny_field ((hs2.2 a naC).trans he) hd hv1 ?_)
  rw [if_neg (show ¬ ((Value.ref T == Value.none) = true) from by simp)]
  rw [hcf, hf]
  refine wpAny_bind (HandSPX.setFlight_anyZ st2 ff2 tr2 fun h4 t1 t2 t3 t4 => wpAny_throw (tk _ _ ?_))
  have I3' : Inv X pins σ H' { sI with heap := G2 } := by
    have un : Un (frs X.stack) fp H3 H' s3.heap sI.heap := I.base
    have nC : ∀ b o, s3.heap.get? b = some o → b ≠ ce.locals := fun b o e z => by
      have q := Heap.lt_size e
      rw [z, cL] at q
      exact Nat.lt_irrefl _ q
    refine I3.call' (ch := fp) I.os ⟨fun b o e n x y => (k1 b (nC b o e)).trans (un.keep b o e n x y), fun b o e n x y => ?_, un.free, fun b o e y => ?_, un.tups, un.frzs, un.tbls⟩ (fun b o e => ?_) I.bare fun b hb => ⟨(f3 b hb).2.2.2.1, (f3 b hb).2.1, (f3 b hb).2.2.2.2.1, (f3 b hb).2.2.2.2.2⟩
    · obtain ⟨sl, q⟩ := un.slot b o e n x y
      exact ⟨sl, (k1 b (nC b o e)).trans q⟩
    · obtain ⟨o', q⟩ := un.there b o e y
      exact ⟨o', (k1 b (nC b o e)).trans q⟩
    · have hfreeC : H' ce.locals = none := I.free
      refine (I.hok b o e).stay (fun c u hc r => (k1 c fun z => ?_).trans r) (fun _ r => r) fun _ _ r => r
      rcases hc with hc | hc
      · rw [← hc, z, hfreeC] at e
        cases e
      · rw [z, hfreeC] at hc
        cases hc
  refine ⟨a, B2, { sI with heap := G2 }, pins, σ, H', cls, d, rfl, I3', fun b o e hb => ?_, fun b o e hnf => ?_, .inr (.inr ⟨t1, noB a b0, by rw [hs]; exact t2, t3⟩), na, os, ag, hE⟩
  · have nbC : b ≠ ce.locals := fun z => by
      have e : G2.get? b = some o := e
      rw [z, k2] at e
      cases e
    exact (g1 b nbC).trans (nb b o ((k1 b nbC).symm.trans e) hb)
  · have nbC : b ≠ ce.locals := fun z => by
      have e : G2.get? b = some o := e
      rw [z, k2] at e
      cases e
    obtain ⟨s1, e1⟩ := up b o ((k1 b nbC).symm.trans e) hnf
    obtain ⟨s2, e2⟩ := up1 b _ e1 hnf
    have e3 : h2.get? b = some { o with slots := s2 } := (hs2.2 b nbC).trans e2
    obtain ⟨s3, e4⟩ := t4 b { o with slots := s2 } e3 hnf
    exact ⟨s3, e4⟩
/-- {k: v for target in iter}, v a call that may raise: D the new dict -/
def tDcE (wi : TI) (g : TG) (tk tv : TE) (vs : List Nat) : TE := fun σ H Q => wi σ H fun J H1 => ∀ D, H1 D = none → ∃ W : Nat → Nat → Hp → Prop, (∃ m, W 0 m (upd H1 D (.dK []))) ∧ ∀ i m H, W i m H →
  (J.stop i H ∧ Q (.ref D) H) ∨ (J.go i H ∧ ∃ Nx : Hp → Prop, (∀ H', Nx H' → ∃ m', m' < m ∧ W (i + 1) m' H') ∧ ∀ x H', J.yld i H x H' → g x (wipe σ vs) H' fun σ2 H2 => wipe σ2 vs = wipe σ vs ∧
    tk σ2 H2 fun y H4 => tv σ2 H4 fun z H5 => ∃ kvs k, y = kV k ∧ H5 D = some (.dK kvs) ∧ kvs.length < sizeLine ∧ Nx (upd H5 D (.dK (putK kvs k z))))
theorem pe_dcE {kx vx tg iter : Expr} {scope : Scope} {own : List (Str × Nat)} {pos : Pos} {wi : TI} {g : TG} {tk tv : TE} (hc : X.calm = true) (hN : X.N.Nodup) (tk0 : Takes X (fun cls d _ H => E cls d H)) (hst : X.stack = X.env :: X.outer) (hf : X.env.frame = some X.env.locals)
    (hi : PI X tg iter wi) (ok : BlkOk X.N X.env.scope scope own) (hg : ∀ (s : Shared) (H : Hp) (C : Addr) (cl : List (Str × Addr)) (fp : List Addr), PG (X.blk s H scope (compEnvC scope cl C X.env) fp) tg g)
    (hk : ∀ (s : Shared) (H : Hp) (C : Addr) (cl : List (Str × Addr)) (fp : List Addr), PE (X.blk s H scope (compEnvC scope cl C X.env) fp) kx tk)
    (he : ∀ (s : Shared) (H : Hp) (C : Addr) (cl : List (Str × Addr)) (fp : List Addr) (xe : Value → Shared → Prop), Passes (L2.CX X.prog X.w) ((X.blk s H scope (compEnvC scope cl C X.env) fp).wish xe) E → PE ((X.blk s H scope (compEnvC scope cl C X.env) fp).wish xe) vx tv)
    (hsf : ∀ x, foldedSetIterable iter X.env x = pure x := by intro _; rfl) :
    PE X (.DictComp kx vx [⟨tg, iter, [], 0⟩] scope pos) (tDcE wi g tk tv (own.map (·.2))) := by
  refine ⟨fun pins s σ H Q I h => ?_⟩
  rw [arm_eval_DictComp]
  have hfree : ∀ y ∈ scope.names, y.2 = .free → ∃ c, X.env.cells.lookup y.1 = some c := fun y hy e =>
    (ok.free y hy e).elim (fun k => I.ok.has _ (.inl k)) fun k => I.ok.has _ (.inr k)
  refine comprehension_at (use := none) rfl hsf (closure_ok hfree) ok.kind (fun y hy e => by rw [ok.uniq y hy, e]) (thn (hi.run pins s σ H _ I h) fun xv s1 hx => thn hx fun itv s2 h2 => ?_)
  obtain ⟨it, fp, tn, J, H2, rfl, I2, T, st2, f2, q⟩ := h2
  refine wpAny_newObj_type (newEnv_comp ?_)
  obtain ⟨W, ⟨m0, w0⟩, turn⟩ := q s2.heap.objs.size (I2.hok.fresh (Nat.le_refl _))
  have I3 : Inv X pins σ (upd H2 s2.heap.objs.size (.dK [])) { s2 with heap := s2.heap.push { cls := .type "dict", data := .dict #[] } } :=
    I2.laid (t' := s2.toks) (fun b o e => Heap.get?_push_of_some _ e) (Nat.le_refl _) (dk_empty s2.heap I2.big)
  have small : ∀ b ∈ fp, b < s2.heap.objs.size := fun b hb => Heap.lt_size (T.obj _ _ st2 b hb).choose_spec.1
  have nD : ∀ b ∈ fp, b ≠ s2.heap.objs.size := fun b hb => Nat.ne_of_lt (small b hb)
  have f3 : ∀ b ∈ fp, FpOk X pins (upd H2 s2.heap.objs.size (.dK [])) b := fun b hb => ⟨by rw [upd_ne (nD b hb)]; exact (f2 b hb).1, (f2 b hb).2⟩
  have st3 : tn 0 (s2.heap.push { cls := .type "dict", data := .dict #[] }) := T.keep _ _ _ st2 fun b _ o e => Heap.get?_push_of_some _ e
  obtain ⟨D, hD⟩ : ∃ D, D = s2.heap.objs.size := ⟨_, rfl⟩
  obtain ⟨s3, hs3⟩ : ∃ s3 : Shared, s3 = { s2 with heap := s2.heap.push { cls := .type "dict", data := .dict #[] } } := ⟨_, rfl⟩
  obtain ⟨H3, hH3⟩ : ∃ H3 : Hp, H3 = upd H2 s2.heap.objs.size (.dK []) := ⟨_, rfl⟩
  have small3 : ∀ b ∈ fp, b < s3.heap.objs.size := fun b hb => by
    rw [hs3]
    exact Nat.lt_of_lt_of_le (small b hb) (by rw [Heap.size_push]; exact Nat.le_succ _)
  have st3 : tn 0 s3.heap := by rw [hs3]; exact st3
  rw [← hD] at turn
  rw [← hH3, ← hs3] at I3
  rw [← hH3] at f3 w0
  have I4 := block_start I3 ok hN fun b hb => ⟨f3 b hb, small3 b hb⟩
  obtain ⟨ce, hce⟩ : ∃ ce : Env, ce = compEnvC scope (cellsFrom (s3.heap.objs.size + 1) scope.names (cloFrom X.env.cells scope.names [])) s3.heap.objs.size X.env := ⟨_, rfl⟩
  obtain ⟨s4, hs4⟩ : ∃ s4 : Shared, s4 = { s3 with heap := pushCells (s3.heap.push { cls := .type "dict", data := .dict #[] }) scope.names } := ⟨_, rfl⟩
  have st4 : tn 0 s4.heap := T.keep _ _ _ st3 fun b _ o e => by rw [hs4]; exact pushCells_keeps _ _ _ _ (Heap.get?_push_of_some _ e)
  have pg := hg s3 H3 s3.heap.objs.size (cellsFrom (s3.heap.objs.size + 1) scope.names (cloFrom X.env.cells scope.names [])) fp
  have pk := hk s3 H3 s3.heap.objs.size (cellsFrom (s3.heap.objs.size + 1) scope.names (cloFrom X.env.cells scope.names [])) fp
  have pv' := he s3 H3 s3.heap.objs.size (cellsFrom (s3.heap.objs.size + 1) scope.names (cloFrom X.env.cells scope.names [])) fp
  have cL : ce.locals = s3.heap.objs.size := by rw [hce]; rfl
  have hcf : ce.frame = X.env.frame := by rw [hce]; rfl
  rw [← hce] at I4 pg pk pv'
  rw [← hs4] at I4
  rw [← hs3, ← hD]
  show codeAny _ _ (.compStart (.DictComp kx vx [⟨tg, iter, [], 0⟩] scope pos) 0 (.ref it) (.ref D) (compEnvC scope (cellsFrom (s3.heap.objs.size + 1) scope.names (cloFrom X.env.cells scope.names [])) s3.heap.objs.size X.env))
    (compEnds (model X.prog X.w) X.A X.xe none (EP X pins σ Q) (.ref D) (compEnvC scope (cellsFrom (s3.heap.objs.size + 1) scope.names (cloFrom X.env.cells scope.names [])) s3.heap.objs.size X.env)) { s3 with heap := pushCells (s3.heap.push { cls := .type "dict", data := .dict #[] }) scope.names }
  rw [← hce, ← hs4]
  have stat : ∀ {σ' : L2.St} {H' : Hp} {s' : Shared}, Inv (X.blk s3 H3 scope ce fp) [] σ' H' s' → (∀ b ∈ fp, H' b = none) → ∀ b ∈ fp, FpOk (X.blk s3 H3 scope ce fp) [] H' b := fun {σ' H' s'} I' hn b hb =>
    ⟨hn b hb, (I'.ok.exf b hb).1, I'.ok.exfs b hb, .inl hb, fun x c e => (I'.ok.exf b hb).2 x c e, fun p hp => absurd (show p ∈ ([] : List (Addr × Obj)) ++ [] from hp) (by simp)⟩
  have loop : codeAny (model X.prog X.w) X.A (.compLoop (.DictComp kx vx [⟨tg, iter, [], 0⟩] scope pos) 0 (.ref it) (.ref D) ce) (compEnds (model X.prog X.w) X.A X.xe none (EP X pins σ Q) (.ref D) ce) s4 := by
    refine compLoop_anyD (fun n s' => ∃ i H', Inv (X.blk s3 H3 scope ce fp) [] (wipe σ (own.map (·.2))) H' s' ∧ tn i s'.heap ∧ (∀ b ∈ fp, H' b = none) ∧ W i n H') ?_ m0 ⟨0, H3, I4, st4, fun b hb => (f3 b hb).1, w0⟩
    rintro n s5 ⟨i, H5, I5, st5, n5, w5⟩
    rcases turn i n H5 w5 with ⟨stop, qq⟩ | ⟨go, Nx, hNx, step⟩
    · refine thnF (T.done (X.blk s3 H3 scope ce fp) rfl rfl rfl hc i [] s5 _ H5 (fun _ _ => False) I5 (stat I5 n5) st5 stop) fun r s6 ⟨hr, I6⟩ => ?_
      subst hr
      have I7 : Inv X pins σ H5 s6 := I3.call' (ch := fp) I6.os I6.base I6.hok I6.bare fun b hb => ⟨(f3 b hb).2.2.2.1, (f3 b hb).2.1, (f3 b hb).2.2.2.2.1, (f3 b hb).2.2.2.2.2⟩
      have nC : H5 s3.heap.objs.size = none := by
        have z : H5 ce.locals = none := I6.free
        rw [cL] at z
        exact z
      obtain ⟨m, hn, _⟩ := I6.loc
      have hn : s6.heap.Ns ce.locals m := hn
      obtain ⟨g0, g1, g2, g3, g4, g5⟩ := I3.fpOk (Nat.le_refl _) nC
      exact ⟨m, hn, fun h' sb => ⟨.ref D, H5, I7.turned (t' := s6.toks) (fun b o hb e => (sb.2 b (by rw [cL]; exact hb)).trans e) g0 g1 g3 g4 g5, rfl, qq⟩⟩
    · refine thnF (T.item (X.blk s3 H3 scope ce fp) rfl rfl rfl hc i [] s5 _ H5 (fun _ _ => False) I5 (stat I5 n5) st5 go) fun r s6 ⟨u, hr, h6⟩ => ?_
      subst hr
      refine thnF h6 fun _ s7 ⟨x, H7, I7, r7, y7, st7, n7⟩ => ?_
      have I7' := I7.pinned (stat I7 n7) (T.obj _ _ st7)
      refine thnF (pg.run _ s7 _ H7 x u _ I7' r7 (step x H7 y7)) fun _ s8 ⟨σ8, H8, I8, hw8, q8⟩ => ?_
      refine wpAny_pure ?_
      simp only [if_true]
      refine thnF (pk.run _ s8 σ8 H8 _ I8 q8) fun z s10 ⟨yk, H10, I10, r10, q10⟩ => ?_
      have run := (pv' (notedBy (model X.prog X.w) X.A ce fun e s2 => compEnds (model X.prog X.w) X.A X.xe none (EP X pins σ Q) (.ref D) ce (.error e) s2) (fun pn σ' H' sx e sy Ix c => out tk0 hst hf hcf cL I3 f3 Ix c)).run _ s10 σ8 H10 _ (I10.wish _) q10
      refine wpAny_mono run (fun z2 s11 ⟨yv, H11, I11, r11, kvs, k, ek, hD11, hz11, nx⟩ => ?_) fun _ _ h => h
      subst ek
      refine d_dictSet (X := X.blk s3 H3 scope ce fp) I11.unwish hD11 hz11 r10 r11 fun s12 I12 => ?_
      obtain ⟨m', hm, w'⟩ := hNx _ nx
      have pin' : ∀ b ∈ fp, ∀ o, s7.heap.get? b = some o → s12.heap.get? b = some o ∧ upd H11 D (.dK (putK kvs k yv)) b = none := fun b hb o e =>
        let z := I12.pin (b, o) (List.mem_append_right _ (List.mem_append_right _ (mem_pinsAt hb e)))
        ⟨z.1, z.2.1⟩
      have hl : (wipe σ (own.map (·.2))).length = σ8.length := by rw [← hw8, wipe_length]
      refine ⟨m', hm, i + 1, _, (I12.unpinned (pins := [])).weak hl (fun j v e => ?_), T.keep _ _ _ st7 fun b hb o e => (pin' b hb o e).1, fun b hb => ?_, w'⟩
      · rw [← hw8] at e
        exact (wipe_some e).1
      · obtain ⟨o, e, _⟩ := T.obj _ _ st7 b hb
        exact (pin' b hb o e).2
  exact codeAny_compStart_dict loop (T.self X.A 0 _ _ _ st4 loop)
/-- over a list that stays -/
theorem dce_list {K : PySem.W.Frag} {a : Addr} {xs : List V} {g : TG} {tk tv : TE} {vs : List Nat} {σ : L2.St} {H1 : Hp} {D : Addr} {Qd : Hp → Prop} (Pv : Nat → Hp → Prop) (h0 : Pv 0 (upd H1 D (.dK []))) (hl : ∀ i H, i ≤ xs.length → Pv i H → SqL K H a xs)
    (hs : ∀ i x H, xs[i]? = some x → Pv i H → g x (wipe σ vs) H fun σ2 H2 => wipe σ2 vs = wipe σ vs ∧ tk σ2 H2 fun y H4 => tv σ2 H4 fun z H5 => ∃ kvs k, y = kV k ∧ H5 D = some (.dK kvs) ∧ kvs.length < sizeLine ∧ Pv (i + 1) (upd H5 D (.dK (putK kvs k z)))) (hd : ∀ H, Pv xs.length H → Qd H) :
    ∃ W : Nat → Nat → Hp → Prop, (∃ m, W 0 m (upd H1 D (.dK []))) ∧ ∀ i m H, W i m H → ((Itl K a).stop i H ∧ Qd H) ∨ ((Itl K a).go i H ∧ ∃ Nx : Hp → Prop, (∀ H', Nx H' → ∃ m', m' < m ∧ W (i + 1) m' H') ∧
      ∀ x H', (Itl K a).yld i H x H' → g x (wipe σ vs) H' fun σ2 H2 => wipe σ2 vs = wipe σ vs ∧ tk σ2 H2 fun y H4 => tv σ2 H4 fun z H5 => ∃ kvs k, y = kV k ∧ H5 D = some (.dK kvs) ∧ kvs.length < sizeLine ∧ Nx (upd H5 D (.dK (putK kvs k z)))) := by
  refine ⟨fun i m H => m + i = xs.length ∧ Pv i H, ⟨xs.length, rfl, h0⟩, fun i m H ⟨hm, p⟩ => ?_⟩
  have q := hl i H (by omega) p
  by_cases hi : i < xs.length
  · refine .inr ⟨⟨xs, xs[i], q, List.getElem?_eq_getElem hi⟩, Pv (i + 1), fun H' p' => ⟨m - 1, by omega, by omega, p'⟩, fun x H' ⟨e, y⟩ => ?_⟩
    subst e
    exact hs i x _ (y xs q) p
  · have e : i = xs.length := by omega
    subst e
    exact .inl ⟨⟨xs, q, Nat.le_refl _⟩, hd H p⟩
end
end DcE
set_option Elab.async false
set_option linter.all false
set_option maxRecDepth 100000
set_option maxHeartbeats 4000000
namespace DcE
open PySem PySem.Spec PyProof.Rows L2
/-- {k: v}, k a tuple of ints and texts -/
def postT (p : Addr) (Q : VK) : List (V × V) → Hp → Prop := fun ps H2 => H2 p = some (.dT []) ∧ ∃ (b : Addr) (ks : List Key) (y : V), ps = [(.ref b, y)] ∧ H2 b = some (.tup (ks.map kV)) ∧ Q (.ref p) (upd H2 p (.dT [(ks, y)]))
def tDispT (tk tv : TE) : TE := fun σ H Q => ∀ p, H p = none → tPairs [(tk, tv)] σ (upd H p (.dT [])) (postT p Q)
theorem pe_dispT {X : Cx} {k v : Expr} {pos : Pos} {tk tv : TE} (hu : X.A.units + 1 < cLine) (hk : PE X k tk) (hv : PE X v tv) : PE X (.Dict [some k] [v] pos) (tDispT tk tv) := by
  refine ⟨fun pins s σ H Q I q => ?_⟩
  have hn := I.hok.fresh (Nat.le_refl s.heap.objs.size)
  have I1 := I.laid (a := s.heap.objs.size) (o := .dT []) (h' := s.heap.push { cls := .type "dict", data := .dict #[] }) (t' := s.toks) (fun _ _ z => Heap.get?_push_of_some _ z) (Nat.le_refl _) (dt_empty s.heap I.big)
  rw [arm_eval_Dict, zip_pairTrees [some k] [v] X.env pos rfl rfl, dictDisplay_pairs _ (by intro z; cases z) (by show 1 < _; decide)]
  refine wpAny_bind (wpAny_standAt (wpAny_bind (wpAny_subDictH (knd := tupleKind (mixKind X.prog X.w)) (Q := fun d s' => wpAny (model X.prog X.w) X.A (pure (Value.ref d)) (EP X pins σ Q) X.xe s') ?_ (by show 1 ≤ 15; decide) (thn ((pps_cons hk hv pps_nil).run pins _ σ _ _ I1 (q _ hn)) fun ws s2 h2 => ?_))))
  · exact (show X.A.units < cLine by omega)
  · obtain ⟨ps, H2, I2, rel, e, b, ks, y, rfl, eb, q2⟩ := h2
    cases rel with
    | cons r1 r2 =>
      rename_i vk ws'
      cases r2
      obtain ⟨u1, u2⟩ := vk
      obtain ⟨rk, rv⟩ := r1
      have ek : u1 = Value.ref b := rk
      subst ek
      obtain ⟨z, hd, xs, rel, dd⟩ := dt_of I2.hok e
      cases rel
      refine ⟨[(ks, b, u2)], ⟨rfl, rfl, key_of I2.hok eb, True.intro⟩, dd, fun h' tk dd' hs => wpAny_pure ⟨.ref s.heap.objs.size, _, ?_, rfl, q2⟩⟩
      obtain ⟨o, es, ep, ho, h2, h3, h4, _, h5⟩ := dd'
      refine d_write I2 (by rw [e]; exact True.intro) hs ⟨o, ho⟩ ⟨by show 1 ≤ sizeLine; decide, hd, [(ks, b, u2)], .cons ⟨rfl, ?_, rv⟩ .nil, o, es, ep, ho, h2, h3, h4, h5⟩
      rw [upd_ne (ne_of eb e (fun z => nomatch z))]
      exact eb
end DcE
set_option Elab.async false
set_option linter.all false
set_option maxRecDepth 100000
namespace Tx
open PySem PySem.Spec PyProof.Rows L2
/-! ### the text by places -/
def topS (i : Nat) : Stmt := PySem.Challenge.pw_spreadmounts_k03_paths_and_links.main.body.getD i (.Pass ⟨0, 0, 0, 0⟩)
abbrev sWhole : Stmt := topS 8
abbrev sName : Stmt := topS 9
abbrev sPath : Stmt := topS 10
abbrev sNode : Stmt := topS 11
abbrev sTree : Stmt := topS 12
abbrev sCell : Stmt := topS 14
abbrev sDigit : Stmt := topS 15
abbrev sWord : Stmt := topS 16
abbrev sFits : Stmt := topS 17
abbrev sJoined : Stmt := topS 18
abbrev sDrawn : Stmt := topS 19
abbrev sLink : Stmt := topS 20
abbrev sLaw : Stmt := topS 21
end Tx
set_option Elab.async false
set_option linter.all false
set_option maxRecDepth 100000
set_option maxHeartbeats 4000000
namespace Tx
open PySem PySem.Spec PyProof.Rows L2 Cm
/-! ### whole numbers, names, paths -/
inductive Wh (K : PySem.W.Frag) (H : Hp) : V → Int → Int → Bool → Prop
  | int (i lo hi : Int) : Wh K H (.int i) lo hi (decide (lo ≤ i) && decide (i ≤ hi))
  | bl (b : Bool) (lo hi : Int) : Wh K H (.bl b) lo hi false
  | other {x : V} {n : String} (lo hi : Int) (ty : TyX K H x (.type n)) (h : kitB n "int" = some false) : Wh K H x lo hi false
def spWhole (K : PySem.W.Frag) : Sp := fun vs H Q _ => ∃ x lo hi b, vs = [x, .int lo, .int hi] ∧ Wh K H x lo hi b ∧ Q (.bl b) H
def letters : Str := "abcdefghijklmnopqrstuvwxyz"
def signB (c : Nat) : Bool := decide (c ∈ letters.cps.toList)
def nameB (z : Str) : Bool := decide (1 ≤ (z.length : Int)) && (decide ((z.length : Int) ≤ 8) && (z.cps.toList.map signB).all id)
def dots : List V := [.str ".", .str ".."]
def wordB (z : Str) : Bool := inV (.str z) dots || nameB z
def wordsOf (z : Str) : List Str := Txt.split (Txt.removeprefix z "/") "/"
def pathB (z : Str) : Bool := if z = "" then false else if z = "/" then true else ((wordsOf z).map wordB).all id
/-- a text, or something else -/
inductive Tn (K : PySem.W.Frag) (H : Hp) (f : Str → Bool) : V → Bool → Prop
  | str (z : Str) (h : z.length ≤ 100000) : Tn K H f (.str z) (f z)
  | other {x : V} {n : String} (ty : TyX K H x (.type n)) (h : kitB n "str" = some false) : Tn K H f x false
def spName (K : PySem.W.Frag) : Sp := fun vs H Q _ => ∃ x b, vs = [x] ∧ Tn K H nameB x b ∧ ∀ H', Same H H' → Q (.bl b) H'
def spPath (K : PySem.W.Frag) : Sp := fun vs H Q _ => ∃ x b, vs = [x] ∧ Tn K H pathB x b ∧ ∀ H', Same H H' → Q (.bl b) H'
/-- the names that stand as built-ins -/
structure Bi (mg : Str → Option Value) : Prop where
  isin : mg "isinstance" = none
  int : mg "int" = none
  bool : mg "bool" = none
  str : mg "str" = none
  dict : mg "dict" = none
  tuple : mg "tuple" = none
  range : mg "range" = none
  len : mg "len" = none
  all : mg "all" = none
  any : mg "any" = none
  sorted : mg "sorted" = none
/-- the constants -/
structure Co (mg : Str → Option Value) : Prop where
  letters : ∃ t, mg "LETTERS" = some (.str letters t)
  nodes : ∃ t, mg "MOST_NODES" = some (.int 60 t)
  depth : ∃ t, mg "MOST_DEPTH" = some (.int 8 t)
theorem scWhole : FnScope ["thing", "low", "high"] ["thing", "low", "high"] (defScope sWhole) := ⟨rfl, rfl, rfl, by decide +kernel, rfl, by decide +kernel, by decide +kernel⟩
theorem scName : FnScope ["thing", "sign"] ["thing"] (defScope sName) := ⟨rfl, rfl, rfl, by decide +kernel, rfl, by decide +kernel, by decide +kernel⟩
theorem scPath : FnScope ["thing", "words", "word"] ["thing"] (defScope sPath) := ⟨rfl, rfl, rfl, by decide +kernel, rfl, by decide +kernel, by decide +kernel⟩
theorem take_snoc {α : Type} {l : List α} {i : Nat} {x : α} (h : l[i]? = some x) : l.take (i + 1) = l.take i ++ [x] := by
  rw [List.take_add_one, h]
  rfl
section
variable {P : Program} {w : World} {K : PySem.W.Frag} {mg : Str → Option Value} {base : Heap}
theorem ok_whole {f : Addr} {fd : FuncData} {k : Nat} (F : Fun K "is_whole" "is_whole" sWhole f fd) (B : Bi mg) : FnOk P w K mg base CX0 (k + 1) f fd ["thing", "low", "high"] (spWhole K) := by
  refine F.ok scWhole (fun vs H Q E h => ?_) (fun cdv A outer s H vs Q E hr h => ?_)
  · obtain ⟨x, lo, hi, b, rfl, _⟩ := h
    rfl
  · obtain ⟨x, lo, hi, b, rfl, hw, q⟩ := h
    refine ⟨_, pss_one (ps_ret (pe_and (pe_callB call_isi (by rfl) B.isin (by decide +kernel) (pa_cons (pv 0) (pa_cons (pe_bltn (v := .ty "int") (by rfl) B.int (by decide +kernel) rfl) pa_nil)))
      (pe_and (pe_not (pe_callB call_isi (by rfl) B.isin (by decide +kernel) (pa_cons (pv 0) (pa_cons (pe_bltn (v := .ty "bool") (by rfl) B.bool (by decide +kernel) rfl) pa_nil))))
        (pe_one (pe_chain op_le op_le (pv 1) (pv 0) (pv 2)))))), ?_⟩
    cases hw with
    | int i =>
      refine ⟨_, rfl, _, .ty "int", _, _, true, rfl, .ty _, .base (.int i), kit_ty (by decide +kernel), _, rfl, iteT ?_⟩
      refine ⟨_, rfl, _, .ty "bool", _, _, false, rfl, .ty _, .base (.int i), kit_ty (by decide +kernel), _, rfl, _, rfl, iteT ?_⟩
      refine ⟨_, rfl, _, rfl, _, _, rfl, rfl, _, rfl, ite2 (fun h => ?_) (fun h => ?_)⟩
      · refine ⟨_, rfl, _, _, rfl, rfl, ?_⟩
        rw [h] at q
        exact q
      · have h' : decide (lo ≤ i) = false := by simpa using h
        rw [h'] at q
        exact q
    | bl b =>
      refine ⟨_, rfl, _, .ty "int", _, _, true, rfl, .ty _, .base (.bl b), kit_ty (by decide +kernel), _, rfl, iteT ?_⟩
      refine ⟨_, rfl, _, .ty "bool", _, _, true, rfl, .ty _, .base (.bl b), kit_ty (by decide +kernel), _, rfl, _, rfl, iteF ?_⟩
      exact q
    | other _ _ ty hn =>
      exact ⟨_, rfl, _, .ty "int", _, _, false, rfl, .ty _, ty, kit_ty hn, _, rfl, iteF q⟩
/-- [sign in LETTERS for sign in z]: what the list holds -/
theorem signs_at (z : Str) {i : Nat} {c : Nat} (h : z.cps[i]? = some c) : (z.cps.toList.map signB)[i]? = some (signB c) := by
  rw [List.getElem?_map, Array.getElem?_toList, h]
  rfl
theorem ok_name {f : Addr} {fd : FuncData} {k : Nat} (F : Fun K "is_name" "is_name" sName f fd) (B : Bi mg) (C : Co mg) : FnOk P w K mg base CX0 (k + 1) f fd ["thing"] (spName K) := by
  obtain ⟨tl, hL⟩ := C.letters
  refine F.ok scName (fun vs H Q E h => ?_) (fun cdv A outer s H vs Q E hr h => ?_)
  · obtain ⟨x, b, rfl, _⟩ := h
    rfl
  · obtain ⟨x, b, rfl, hw, q⟩ := h
    refine ⟨_, pss_one (ps_ret (pe_and (pe_callB call_isi (by rfl) B.isin (by decide +kernel) (pa_cons (pv 0) (pa_cons (pe_bltn (v := .ty "str") (by rfl) B.str (by decide +kernel) rfl) pa_nil)))
      (pe_and (pe_chain op_le op_le pe_int (pe_callB call_len_str (by rfl) B.len PySem.boot_len (pa_cons (pv 0) pa_nil)) pe_int)
        (pe_one (pe_callB (cr_all rfl) (by rfl) B.all (by decide +kernel) (pa_cons (pe_lc (own := [("sign", 1)]) (g := gName 1) (tt := tYes) (by rfl) scName.nd (pi_str (pv 0)) (blkOk_by (own := [("sign", 1)]) (N := ["thing", "sign"]) (sc := defScope sName) (by decide +kernel)) (fun _ _ _ _ _ => pg_name (i := 1) scName.nd rfl (Or.inl rfl)) (fun _ _ _ _ _ => pts_nil)
          (fun _ _ _ _ _ => pe_cmpR op_in_sign (pv 1) (pe_glob (v := .str letters) (by rfl) hL ⟨_, rfl⟩) rfl)) pa_nil)))))), ?_⟩
    cases hw with
    | other ty hn => exact ⟨_, rfl, _, .ty "str", _, _, false, rfl, .ty _, ty, kit_ty hn, _, rfl, iteF (q H (Same.refl H))⟩
    | str z hz =>
      refine ⟨_, rfl, _, .ty "str", _, _, true, rfl, .ty _, .base (.str z), kit_ty (by decide +kernel), _, rfl, iteT ?_⟩
      refine ⟨_, rfl, z, rfl, Evl.sz_of hz, 1, _, rfl, rfl, _, rfl, ite2 (fun h1 => ?_) (fun h1 => ?_)⟩
      · refine ⟨_, _, rfl, rfl, _, rfl, ite2 (fun h2 => ?_) (fun h2 => ?_)⟩
        · refine ⟨_, rfl, z, rfl, fun D hD => lc_it walk_str (fun i H' => H' D = some (.lst (((z.cps.toList.map signB).take i).map V.bl)) ∧ Same H H') ⟨upd_same, same_new hD⟩ (fun _ _ _ _ => True.intro) ?_ ?_⟩
          · rintro i x H1 H2 hi ⟨h3, sm⟩ ⟨rfl, c, hc, rfl⟩
            refine ⟨rfl, _, rfl, c, letters, rfl, rfl, _, h3, Evl.sz_lt ?_, ?_, same_mut hD sm⟩
            · rw [List.length_map, List.length_take]
              exact Nat.lt_of_le_of_lt (Nat.min_le_left _ _) (Nat.lt_of_lt_of_le hi hz)
            · rw [upd_same, take_snoc (signs_at z hc), List.map_append]
              rfl
          · rintro H1 ⟨h3, sm⟩
            have e : (z.cps.toList.map signB).take z.cps.size = z.cps.toList.map signB := List.take_of_length_le (by rw [List.length_map, Array.length_toList]; exact Nat.le_refl _)
            rw [e] at h3
            refine ⟨D, _, rfl, SqL.of h3, ?_⟩
            have eb : nameB z = (z.cps.toList.map signB).all id := by
              unfold nameB
              rw [h1, h2, Bool.true_and, Bool.true_and]
            rw [← eb]
            exact q H1 sm
        · have eb : nameB z = false := by
            unfold nameB
            have h2' : decide ((z.length : Int) ≤ 8) = false := by simpa using h2
            rw [h2', Bool.false_and, Bool.and_false]
          rw [eb] at q
          exact q H (Same.refl H)
      · have eb : nameB z = false := by
          unfold nameB
          have h1' : decide (1 ≤ (z.length : Int)) = false := by simpa using h1
          rw [h1', Bool.false_and]
        rw [eb] at q
        exact ⟨_, rfl, iteF (q H (Same.refl H))⟩
theorem prefix_le (z : Str) : (Txt.removeprefix z "/").length ≤ z.length := by
  rw [StrLaws.removeprefix_eq]
  split
  · show (((z.cps.toList.drop _).take _).toArray).size ≤ z.cps.size
    rw [List.size_toArray, List.length_take, List.length_drop, Array.length_toList]
    omega
  · exact Nat.le_refl _
theorem opInK {X : Cx} {K : PySem.W.Frag} (h : X.K = K) : OpR X (compareOp .In) (rIn K false) := h ▸ op_in_seq
theorem ok_path {f fN : Addr} {fd fdN : FuncData} {k : Nat} (F : Fun K "is_path" "is_path" sPath f fd) (B : Bi mg) (N : Cl P w K mg base CX0 (k + 1) "is_name" ["thing"] (spName K)) : FnOk P w K mg base CX0 (k + 2) f fd ["thing"] (spPath K) := by
  refine F.ok scPath (fun vs H Q E h => ?_) (fun cdv A outer s H vs Q E hr h => ?_)
  · obtain ⟨x, b, rfl, _⟩ := h
    rfl
  · obtain ⟨x, b, rfl, hw, q⟩ := h
    refine ⟨_, pss_cons (ps_if (PW.pt (pw_or (pt_not (pt_val (pe_callB call_isi (by rfl) B.isin (by decide +kernel) (pa_cons (pv 0) (pa_cons (pe_bltn (v := .ty "str") (by rfl) B.str (by decide +kernel) rfl) pa_nil))))) (pw_or1 (pt_cmpR op_eq (pv 0) pe_str (nomark _))))) (pss_one (ps_ret pe_bl)) pss_nil)
      (pss_cons (ps_if (pt_cmpR op_eq (pv 0) pe_str (nomark _)) (pss_one (ps_ret pe_bl)) pss_nil)
      (pss_cons (ps_set (i := 1) scPath.nd rfl (.inl rfl) (pe_split (pe_bm PySem.F.plainAttrs_str PySem.F.slot_str_removeprefix PySem.F.type_str_removeprefix mt_removeprefix (pv 0) (pa_cons pe_str pa_nil)) pe_str))
      (pss_one (ps_ret (pe_callB (cr_all rfl) (by rfl) B.all (by decide +kernel) (pa_cons (pe_lc (own := [("word", 2)]) (g := gName 2) (tt := tYes) (by rfl) scPath.nd (pi_list (pv 1)) (blkOk_by (own := [("word", 2)]) (N := ["thing", "words", "word"]) (sc := defScope sPath) (by decide +kernel)) (fun _ _ _ _ _ => pg_name (i := 2) scPath.nd rfl (Or.inl rfl)) (fun _ _ _ _ _ => pts_nil)
          (fun _ _ _ _ _ => pe_or (pe_cmpR (opInK (K := K) rfl) (pv 2) (pe_tup (pa_cons pe_str (pa_cons pe_str pa_nil))) (by rfl)) (pe_one (pe_cl N hr (by omega) (by rfl) pass0 (pa_cons (pv 2) pa_nil))))) pa_nil)))))), ?_⟩
    cases hw with
    | other ty hn => exact ⟨_, rfl, _, .ty "str", _, _, false, rfl, .ty _, ty, kit_ty hn, _, rfl, iteT (iteT (q H (Same.refl H)))⟩
    | str z hz =>
      refine ⟨_, rfl, _, .ty "str", _, _, true, rfl, .ty _, .base (.str z), kit_ty (by decide +kernel), _, rfl, iteF ?_⟩
      refine ⟨_, rfl, rfl, _, rfl, ?_⟩
      by_cases e0 : z = ""
      · have eb : pathB z = false := by
          unfold pathB
          rw [if_pos e0]
        rw [eb] at q
        subst e0
        exact iteT (q H (Same.refl H))
      · rw [decide_eq_false (show ¬ V.str z = V.str "" from fun h => e0 (V.str.inj h))]
        refine iteF ⟨_, rfl, rfl, _, rfl, ?_⟩
        by_cases e1 : z = "/"
        · have eb : pathB z = true := by
            unfold pathB
            rw [if_neg e0, if_pos e1]
          rw [eb] at q
          subst e1
          exact iteT (q H (Same.refl H))
        · have eb : pathB z = ((wordsOf z).map wordB).all id := by
            unfold pathB
            rw [if_neg e0, if_neg e1]
          rw [decide_eq_false (show ¬ V.str z = V.str "/" from fun h => e1 (V.str.inj h))]
          refine iteF ⟨_, rfl, rfl, z, _, rfl, rfl, Evl.sz_of hz, ⟨_, rfl⟩, _, _, rfl, rfl, rfl, Nat.le_trans (show _ ≤ 100002 from Nat.add_le_add_right (Nat.le_trans (prefix_le z) hz) 2) (by decide), fun p hp => ?_⟩
          have hall : ∀ v ∈ wordsOf z, v.length ≤ 100000 := fun v hv => Nat.le_trans (part_short hv) (Nat.le_trans (prefix_le z) hz)
          have hlen : (wordsOf z).length < 200000 := Nat.lt_of_le_of_lt (split_le _ _) (Nat.lt_of_le_of_lt (Nat.add_le_add_right (Nat.le_trans (prefix_le z) hz) 2) (by decide))
          refine ⟨_, rfl, p, rfl, ⟨_, SqL.of upd_same⟩, fun D hD => lc_list (K := K) (a := p) (xs := (wordsOf z).map V.str) (fun i H' => H' D = some (.lst ((((wordsOf z).map wordB).take i).map V.bl)) ∧ H' p = some (.lst ((wordsOf z).map V.str)) ∧ Same H H') ⟨upd_same, by rw [upd_ne (ne_of_none upd_same hD)]; exact upd_same, (same_new hp).trans (same_new hD)⟩ (fun i H' _ h => SqL.of h.2.1) ?_ ?_⟩
          · rintro i x H1 hx ⟨h3, h4, sm⟩
            rw [List.getElem?_map] at hx
            cases ew : (wordsOf z)[i]? with
            | none =>
              rw [ew] at hx
              cases hx
            | some wd =>
              rw [ew] at hx
              cases hx
              have hi := (List.getElem?_eq_some_iff.mp ew).1
              have hD0 : H D = none := (same_new hp).free hD
              have np : p ≠ D := ne_of_none (show upd H p _ p = some _ from upd_same) hD
              have fin : ∀ H2, Same H1 H2 → (∃ acc, H2 D = some (.lst acc) ∧ acc.length < sizeLine ∧ upd H2 D (.lst (acc ++ [V.bl (wordB wd)])) D = some (.lst ((((wordsOf z).map wordB).take (i + 1)).map V.bl)) ∧ upd H2 D (.lst (acc ++ [V.bl (wordB wd)])) p = some (.lst ((wordsOf z).map V.str)) ∧ Same H (upd H2 D (.lst (acc ++ [V.bl (wordB wd)])))) := fun H2 s2 => by
                have eg : ((wordsOf z).map wordB)[i]? = some (wordB wd) := by
                  rw [List.getElem?_map, ew]
                  rfl
                refine ⟨_, s2 _ _ h3, Nat.lt_of_lt_of_le (show _ < 200000 from ?_) (by decide), ?_, ?_, same_mut hD0 (sm.trans s2)⟩
                · rw [List.length_map, List.length_take, List.length_map]
                  omega
                · rw [upd_same, take_snoc eg, List.map_append]
                  rfl
                · rw [upd_ne np]
                  exact s2 _ _ h4
              refine ⟨rfl, _, rfl, (by show 2 ≤ sizeLine; decide), fun t ht => ?_⟩
              refine ⟨t, dots, rfl, .inr (SqT.of upd_same), rfl, rfl, _, rfl, ite2 (fun c => ?_) (fun c => ?_)⟩
              · have ew1 : wordB wd = true := by
                  unfold wordB
                  rw [show inV (.str wd) dots = true from c, Bool.true_or]
                have := fin _ (same_new (o := HO.tup dots) ht)
                rw [ew1] at this
                exact this
              · have c' : inV (.str wd) dots = false := by simpa using c
                have ew1 : wordB wd = nameB wd := by
                  unfold wordB
                  rw [c', Bool.false_or]
                refine ⟨_, rfl, _, _, rfl, .str wd (hall wd (List.mem_of_getElem? ew)), fun H2 s2 => ?_⟩
                have := fin _ ((same_new (o := HO.tup dots) ht).trans s2)
                rw [ew1] at this
                exact this
          · rintro H1 ⟨h3, h4, sm⟩
            have e : ((wordsOf z).map wordB).take ((wordsOf z).map V.str).length = (wordsOf z).map wordB := List.take_of_length_le (by rw [List.length_map, List.length_map]; exact Nat.le_refl _)
            rw [e] at h3
            refine ⟨D, _, rfl, SqL.of h3, ?_⟩
            rw [← eb]
            exact q H1 sm
end
end Tx
set_option Elab.async false
set_option linter.all false
set_option maxRecDepth 100000
set_option maxHeartbeats 4000000
namespace Tx
open PySem PySem.Spec PyProof.Rows L2 Cm
/-! ### nodes as data -/
inductive Nd where
  | fil (i : Int)
  | lnk (z : Str)
  | dir (ks : List (Str × Nd))
/-- v stands for t in the dicts of H -/
inductive NdAt (H : Hp) : V → Nd → Prop
  | fil (i : Int) : NdAt H (.int i) (.fil i)
  | lnk (z : Str) (hz : z.length ≤ 100000) : NdAt H (.str z) (.lnk z)
  | dir {a : Addr} {kvs : List (Key × V)} {ks : List (Str × Nd)} (h : H a = some (.dK kvs)) (hk : kvs.map (·.1) = ks.map fun p => (Sum.inr p.1 : Key)) (hn : (ks.map (·.1)).Nodup) (hl : ks.length < 64) (hz : ∀ p ∈ ks, p.1.length ≤ 100000)
      (hv : ∀ (i : Nat) (kv : Key × V) (p : Str × Nd), kvs[i]? = some kv → ks[i]? = some p → NdAt H kv.2 p.2) : NdAt H (.ref a) (.dir ks)
/-- the dicts stay -/
def DKeep (H H' : Hp) : Prop := ∀ b kvs, H b = some (.dK kvs) → H' b = some (.dK kvs)
theorem NdAt.mono {H H' : Hp} {v : V} {t : Nd} (h : NdAt H v t) (k : DKeep H H') : NdAt H' v t := by
  induction h with
  | fil i => exact .fil i
  | lnk z hz => exact .lnk z hz
  | dir h hk hn hl hz _ ih => exact .dir (k _ _ h) hk hn hl hz ih
theorem DKeep.same {H H' : Hp} (s : Same H H') : DKeep H H' := fun b _ h => s b _ h
theorem DKeep.but {H H' : Hp} {m : Addr} {o : HO} (b : But m H H') (hm : H m = some o) (ho : ∀ kvs, o ≠ .dK kvs) : DKeep H H' := fun c kvs h => b c _ (fun z => by
  rw [z, hm] at h
  exact ho kvs (Option.some.inj h)) h
theorem DKeep.trans {H H1 H2 : Hp} (a : DKeep H H1) (b : DKeep H1 H2) : DKeep H H2 := fun c kvs h => b c kvs (a c kvs h)
/-- what has come since H -/
def newIn (H H' : Hp) : Hp := fun b => match H b with | none => H' b | some _ => none
theorem newIn_of {H H' : Hp} {b : Addr} (h : H b = none) : newIn H H' b = H' b := by
  unfold newIn
  rw [h]
theorem newIn_some {H H' : Hp} {b : Addr} {o : HO} (h : newIn H H' b = some o) : H b = none ∧ H' b = some o := by
  unfold newIn at h
  cases e : H b with
  | none =>
    rw [e] at h
    exact ⟨rfl, h⟩
  | some u =>
    rw [e] at h
    cases h
theorem newIn_keep (H H' : Hp) : DKeep (newIn H H') H' := fun _ _ h => (newIn_some h).2
/-- what came in a part has come in the whole -/
theorem newIn_part {H H1 H2 H3 : Hp} (a : ∀ b o, H b = some o → ∃ u, H1 b = some u) (k : ∀ b kvs, H1 b = none → H2 b = some (.dK kvs) → H3 b = some (.dK kvs)) : DKeep (newIn H1 H2) (newIn H H3) := fun b kvs h => by
  obtain ⟨h1, h2⟩ := newIn_some h
  have h0 : H b = none := by
    cases e : H b with
    | none => rfl
    | some o =>
      obtain ⟨u, z⟩ := a b o e
      rw [z] at h1
      cases h1
  rw [newIn_of h0]
  exact k b kvs h1 h2
/-! ### names in order -/
def leS (a b : Str) : Bool := decide (a.cps.toList ≤ b.cps.toList)
def sortK (ks : List (Str × Nd)) : List (Str × Nd) := ks.mergeSort fun a b => leS a.1 b.1
theorem leS_trans (a b c : Str) (h1 : leS a b = true) (h2 : leS b c = true) : leS a c = true := by
  unfold leS at *
  simp only [decide_eq_true_eq] at *
  exact List.le_trans h1 h2
theorem leS_total (a b : Str) : (leS a b || leS b a) = true := by
  unfold leS
  simp only [Bool.or_eq_true, decide_eq_true_eq]
  exact List.le_total _ _
theorem leS_anti (a b : Str) (h1 : leS a b = true) (h2 : leS b a = true) : a = b := by
  unfold leS at *
  simp only [decide_eq_true_eq] at *
  exact TL.ext_tl (List.le_antisymm h1 h2)
theorem rising_le : ∀ (r : List Str) (x : Str), risingS x r = true → (x :: r).Pairwise fun a b => leS a b = true
  | [], x, _ => List.pairwise_singleton _ _
  | y :: r, x, h => by
    unfold risingS at h
    rw [Bool.and_eq_true, ltCps_eq] at h
    have h1 : leS x y = true := by
      unfold leS
      have z : ¬ y.cps.toList < x.cps.toList := by simpa using h.1
      rw [decide_eq_true_eq]
      exact z
    have ih := rising_le r y h.2
    refine List.pairwise_cons.mpr ⟨fun b hb => ?_, ih⟩
    rcases List.mem_cons.mp hb with e | e
    · rw [e]
      exact h1
    · exact leS_trans x y b h1 (List.rel_of_pairwise_cons ih e)
theorem sortK_names {ks : List (Str × Nd)} {ys : List Str} (hp : ys.Perm (ks.map (·.1))) (hs : sortedS ys = true) : ys = (sortK ks).map (·.1) := by
  have p1 : ys.Pairwise fun a b => leS a b = true := by
    cases ys with
    | nil => exact List.Pairwise.nil
    | cons x r => exact rising_le r x hs
  have p2 : ((sortK ks).map (·.1)).Pairwise fun a b => leS a b = true := by
    rw [List.pairwise_map]
    exact List.pairwise_mergeSort (le := fun a b : Str × Nd => leS a.1 b.1) (fun a b c => leS_trans _ _ _) (fun a b => leS_total _ _) ks
  refine List.Perm.eq_of_pairwise (fun a b _ _ h1 h2 => leS_anti a b h1 h2) p1 p2 (hp.trans ?_)
  exact ((List.mergeSort_perm ks _).map _).symm
theorem sortK_mem {ks : List (Str × Nd)} {p : Str × Nd} : p ∈ sortK ks ↔ p ∈ ks := (List.mergeSort_perm ks _).mem_iff
theorem sortK_len (ks : List (Str × Nd)) : (sortK ks).length = ks.length := (List.mergeSort_perm ks _).length_eq
theorem sortK_nodup {ks : List (Str × Nd)} (h : (ks.map (·.1)).Nodup) : ((sortK ks).map (·.1)).Nodup := ((List.mergeSort_perm ks _).map _).nodup_iff.mpr h
/-! ### what node_value makes of a datum: with g levels left, n nodes met -/
def nvs (f : Nd → Nat → Option (Nd × Nat)) : List (Str × Nd) → Nat → Option (List (Str × Nd) × Nat)
  | [], n => some ([], n)
  | p :: r, n => match f p.2 n with
    | none => none
    | some (t, m) => match nvs f r m with
      | none => none
      | some (r', m') => some ((p.1, t) :: r', m')
def wholeB (i : Int) : Bool := decide (1 - 10 ^ 60 ≤ i) && decide (i ≤ 10 ^ 60 - 1)
def nv : Nat → Nd → Nat → Option (Nd × Nat)
  | 0, _, _ => none
  | g + 1, t, n => if 61 < n + 1 then none else match t with
    | .fil i => if wholeB i then some (.fil i, n + 1) else none
    | .lnk z => if pathB z then some (.lnk z, n + 1) else none
    | .dir ks => if ks.all fun p => nameB p.1 then (match nvs (nv g) (sortK ks) (n + 1) with
      | some (ks', m) => some (.dir ks', m)
      | none => none) else none
theorem nvs_cons (f : Nd → Nat → Option (Nd × Nat)) (p : Str × Nd) (r : List (Str × Nd)) (n : Nat) : nvs f (p :: r) n = match f p.2 n with
    | none => none
    | some (t, m) => match nvs f r m with
      | none => none
      | some (r', m') => some ((p.1, t) :: r', m') := rfl
theorem nvs_append (f : Nd → Nat → Option (Nd × Nat)) : ∀ (a b : List (Str × Nd)) (n : Nat), nvs f (a ++ b) n = match nvs f a n with
    | none => none
    | some (r, m) => match nvs f b m with
      | none => none
      | some (r', m') => some (r ++ r', m')
  | [], b, n => by
    show nvs f b n = match nvs f b n with | none => none | some (r', m') => some ([] ++ r', m')
    cases nvs f b n with
    | none => rfl
    | some p => rfl
  | p :: a, b, n => by
    rw [List.cons_append, nvs_cons, nvs_cons]
    cases e : f p.2 n with
    | none => rfl
    | some q =>
      obtain ⟨t, m⟩ := q
      dsimp only
      rw [nvs_append f a b m]
      cases nvs f a m with
      | none => rfl
      | some q1 =>
        obtain ⟨r1, m1⟩ := q1
        dsimp only
        cases nvs f b m1 with
        | none => rfl
        | some q2 => rfl
theorem nvs_one (f : Nd → Nat → Option (Nd × Nat)) (p : Str × Nd) (n : Nat) : nvs f [p] n = match f p.2 n with
    | none => none
    | some (t, m) => some ([(p.1, t)], m) := by
  unfold nvs
  cases f p.2 n with
  | none => rfl
  | some q => rfl
/-- one more -/
theorem nvs_next {f : Nd → Nat → Option (Nd × Nat)} {S r : List (Str × Nd)} {p : Str × Nd} {i n m m' : Nat} {t : Nd} (hi : S[i]? = some p) (h : nvs f (S.take i) n = some (r, m)) (hf : f p.2 m = some (t, m')) : nvs f (S.take (i + 1)) n = some (r ++ [(p.1, t)], m') := by
  rw [take_snoc hi, nvs_append, h]
  dsimp only
  rw [nvs_one, hf]
theorem nvs_stop {f : Nd → Nat → Option (Nd × Nat)} {S r : List (Str × Nd)} {p : Str × Nd} {i n m : Nat} (hi : S[i]? = some p) (h : nvs f (S.take i) n = some (r, m)) (hf : f p.2 m = none) : nvs f S n = none := by
  have e : S = S.take (i + 1) ++ S.drop (i + 1) := (List.take_append_drop _ _).symm
  have q : nvs f (S.take (i + 1)) n = none := by
    rw [take_snoc hi, nvs_append, h]
    dsimp only
    rw [nvs_one, hf]
  rw [e, nvs_append, q]
theorem nvs_names {f : Nd → Nat → Option (Nd × Nat)} : ∀ {S r : List (Str × Nd)} {n m : Nat}, nvs f S n = some (r, m) → r.map (·.1) = S.map (·.1)
  | [], r, n, m, h => by
    cases h
    rfl
  | p :: S, r, n, m, h => by
    unfold nvs at h
    cases e : f p.2 n with
    | none =>
      rw [e] at h
      cases h
    | some q =>
      obtain ⟨t, m1⟩ := q
      rw [e] at h
      dsimp only at h
      cases e2 : nvs f S m1 with
      | none =>
        rw [e2] at h
        cases h
      | some q2 =>
        obtain ⟨r', m'⟩ := q2
        rw [e2] at h
        cases h
        rw [List.map_cons, List.map_cons, nvs_names e2]
theorem nvs_le {f : Nd → Nat → Option (Nd × Nat)} (hf : ∀ t n t' m, f t n = some (t', m) → m ≤ 61) : ∀ {S r : List (Str × Nd)} {n m : Nat}, n ≤ 61 → nvs f S n = some (r, m) → m ≤ 61
  | [], r, n, m, h0, h => by
    cases h
    exact h0
  | p :: S, r, n, m, h0, h => by
    unfold nvs at h
    cases e : f p.2 n with
    | none =>
      rw [e] at h
      cases h
    | some q =>
      obtain ⟨t, m1⟩ := q
      rw [e] at h
      dsimp only at h
      cases e2 : nvs f S m1 with
      | none =>
        rw [e2] at h
        cases h
      | some q2 =>
        obtain ⟨r', m'⟩ := q2
        rw [e2] at h
        cases h
        exact nvs_le hf (hf _ _ _ _ e) e2
theorem nv_le : ∀ (g : Nat) (t : Nd) (n : Nat) (t' : Nd) (m : Nat), nv g t n = some (t', m) → m ≤ 61
  | 0, t, n, t', m, h => by cases h
  | g + 1, t, n, t', m, h => by
    unfold nv at h
    split at h
    · cases h
    · rename_i h61
      cases t with
      | fil i =>
        dsimp only at h
        split at h
        · cases h
          omega
        · cases h
      | lnk z =>
        dsimp only at h
        split at h
        · cases h
          omega
        · cases h
      | dir ks =>
        dsimp only at h
        split at h
        · cases e : nvs (nv g) (sortK ks) (n + 1) with
          | none =>
            rw [e] at h
            cases h
          | some q =>
            obtain ⟨r, m1⟩ := q
            rw [e] at h
            cases h
            exact nvs_le (nv_le g) (by omega) e
        · cases h
/-! ### a dict's entries by place -/
theorem valV_at {κ : Type} [DecidableEq κ] : ∀ {kvs : List (κ × V)} {j : Nat} {k : κ} {v : V}, (kvs.map (·.1)).Nodup → kvs[j]? = some (k, v) → valV kvs k = some v
  | [], j, k, v, _, h => by simp at h
  | p :: r, 0, k, v, _, h => by
    have e : p = (k, v) := Option.some.inj h
    subst e
    simp [valV]
  | p :: r, j + 1, k, v, hn, h => by
    have hn' : (p.1 :: r.map (·.1)).Nodup := hn
    obtain ⟨h1, h2⟩ := List.nodup_cons.mp hn'
    have hr : r[j]? = some (k, v) := h
    have ne : p.1 ≠ k := fun z => h1 (by rw [z]; exact List.mem_map.mpr ⟨(k, v), List.mem_of_getElem? hr, rfl⟩)
    have ih := valV_at h2 hr
    unfold valV at ih ⊢
    rw [List.find?_cons_of_neg (by simpa using ne)]
    exact ih
end Tx
set_option Elab.async false
set_option linter.all false
set_option maxRecDepth 100000
set_option maxHeartbeats 8000000
namespace Tx
open PySem PySem.Spec PyProof.Rows L2 Cm
/-- the class NoTree -/
structure No (K : PySem.W.Frag) (mg : Str → Option Value) (C : Addr) : Prop where
  g : mg "NoTree" = some (.ref C)
  x : PySem.W.excIn K C [.type "ValueError", .type "Exception", .type "BaseException", .type "object"] "ValueError.__new__" = true
  k : PySem.W.keepIn K (.ref C) = true
  b : PySem.W.subIn K (.ref C) (.type "BaseException") = some true
  t : PySem.W.typeIn K (.ref C) = some (.type "type")
  e : PySem.W.exmOne K (.ref C) (.ref C) = some true
def spNode (C : Addr) (g : Nat) : Sp := fun vs H Q E => ∃ v t m ms, vs = [v, .int (9 - (g : Int)), .ref m] ∧ NdAt H v t ∧ H m = some (.lst ms) ∧ ms.length ≤ 61 ∧
  (∀ t' n, nv g t ms.length = some (t', n) → ∀ v' ms' H', NdAt (newIn H H') v' t' → H' m = some (.lst ms') → ms'.length = n → But m H H' → Q v' H') ∧
  (nv g t ms.length = none → ∀ H', But m H H' → (∃ ms', H' m = some (.lst ms')) → E (.ref C) none H')
abbrev nN : List Str := ["thing", "depth", "met", "name"]
theorem scNode : FnScope nN ["thing", "depth", "met"] (defScope sNode) := ⟨rfl, rfl, rfl, by decide +kernel, rfl, by decide +kernel, by decide +kernel⟩
def stN (i : Nat) : Stmt := (defBody sNode).getD i (.Pass ⟨0, 0, 0, 0⟩)
section
variable {P : Program} {w : World} {K : PySem.W.Frag} {mg : Str → Option Value} {base : Heap} {f C : Addr} {cdv : Value} {A : Around} {outer : List Env} {s : Shared} {H0 : Hp} {E : XK}
abbrev XN (P : Program) (w : World) (K : PySem.W.Frag) (mg : Str → Option Value) (base : Heap) (f : Addr) (cdv : Value) (A : Around) (outer : List Env) (s : Shared) (H0 : Hp) (E : XK) : Cx := cxOf (L2.CX P w) P w K mg base nN "node_value" (defScope sNode) f cdv A outer s H0 E
/-- raise NoTree('..') -/
theorem ps_no {m : Str} {j : Nat} {p p2 p3 p4 : Pos} (T : No K mg C) : PS (XN P w K mg base f cdv A outer s H0 E) (.Raise (some (.Call (.Name "NoTree" p) [.Constant (.str m) j p2] [] p3)) none p4) (fun _ _ H => E (.ref C) none H) :=
  ps_raise rfl (takes_of rfl rfl rfl rfl) (pmk_own PySem.F.excBase_ValueError T.x T.g T.k (raises_own T.b T.t) (by rfl))
def sl (v : V) (d : Int) (m : Addr) : L2.St := [some v, some (.int d), some (.ref m), none]
/-- met.append(depth); the two checks -/
theorem hN0 {v : V} {d : Int} {m : Addr} {ms : List V} {H : Hp} (hm : H m = some (.lst ms)) (hl : ms.length ≤ 61) :
    Ho (XN P w K mg base f cdv A outer s H0 E) (stN 0) (fun σ H' => σ = sl v d m ∧ H' = H) (fun σ H' => σ = sl v d m ∧ H' = upd H m (.lst (ms ++ [.int d]))) := by
  refine ⟨_, ps_expr (pe_bm PySem.F.plainAttrs_list PySem.F.slot_list_append PySem.F.type_list_append mt_append (pv 2) (pa_cons (pv 1) pa_nil)), ?_⟩
  rintro D σ H' ⟨rfl, rfl⟩ q
  exact ⟨_, rfl, .inl ⟨rfl, _, SqL.of hm⟩, _, rfl, m, ms, _, rfl, rfl, hm, small1000 (by omega), q _ _ ⟨rfl, rfl⟩⟩
theorem hN1 {v : V} {d : Int} {m : Addr} {H : Hp} (Cn : Co mg) (T : No K mg C) (hx : 8 < d → E (.ref C) none H) :
    Ho (XN P w K mg base f cdv A outer s H0 E) (stN 1) (fun σ H' => σ = sl v d m ∧ H' = H) (fun σ H' => σ = sl v d m ∧ H' = H ∧ d ≤ 8) := by
  obtain ⟨td, hd⟩ := Cn.depth
  refine ⟨_, ps_if (pt_cmpR op_gt (pv 1) (pe_glob (v := .int 8) (by rfl) hd ⟨_, rfl⟩) (nomark _)) (pss_one (ps_no T)) pss_nil, ?_⟩
  rintro D σ H' ⟨rfl, rfl⟩ q
  refine ⟨_, rfl, d, 8, rfl, rfl, _, rfl, ite2 (fun c => hx (of_decide_eq_true c)) (fun c => ?_)⟩
  have c' : ¬ 8 < d := fun z => c (decide_eq_true z)
  exact q _ _ ⟨rfl, rfl, by omega⟩
theorem hN2 {v : V} {d : Int} {m : Addr} {H : Hp} {ms : List V} (B : Bi mg) (Cn : Co mg) (T : No K mg C) (hm : H m = some (.lst ms)) (hx : 61 < ms.length → E (.ref C) none H) :
    Ho (XN P w K mg base f cdv A outer s H0 E) (stN 2) (fun σ H' => σ = sl v d m ∧ H' = H ∧ d ≤ 8) (fun σ H' => σ = sl v d m ∧ H' = H ∧ ms.length ≤ 61) := by
  obtain ⟨td, hd⟩ := Cn.nodes
  refine ⟨_, ps_if (pt_cmpR op_gt (pe_callB call_len_seq (by rfl) B.len PySem.boot_len (pa_cons (pv 2) pa_nil)) (pe_op op_add (pe_glob (v := .int 60) (by rfl) hd ⟨_, rfl⟩) pe_int) (nomark _)) (pss_one (ps_no T)) pss_nil, ?_⟩
  rintro D σ H' ⟨rfl, rfl, _⟩ q
  refine ⟨_, rfl, m, ms, rfl, .inl (SqL.of hm), 60, 1, rfl, rfl, _, _, rfl, rfl, _, rfl, ite2 (fun c => hx ?_) (fun c => ?_)⟩
  · have c' : (60 : Int) + 1 < (ms.length : Int) := of_decide_eq_true c
    omega
  · have c' : ¬ (60 : Int) + 1 < (ms.length : Int) := fun z => c (decide_eq_true z)
    exact q _ _ ⟨rfl, rfl, by omega⟩
/-- behind the dict's branch: a file or a link -/
theorem hN4 {v : V} {t : Nd} {d : Int} {m : Addr} {H : Hp} (B : Bi mg) (T : No K mg C) (W : Cl P w K mg base CX0 1 "is_whole" ["thing", "low", "high"] (spWhole K)) (Pt : Cl P w K mg base CX0 2 "is_path" ["thing"] (spPath K)) (hr : Room 2 (XN P w K mg base f cdv A outer s H0 E).A)
    (R : VK) (h1 : ∀ i, t = .fil i → v = .int i ∧ ∀ H', Same H H' → if wholeB i = true then R v H' else E (.ref C) none H') (h2 : ∀ z, t = .lnk z → v = .str z ∧ z.length ≤ 100000 ∧ ∀ H', Same H H' → if pathB z = true then R v H' else E (.ref C) none H') (h3 : ∀ ks, t ≠ .dir ks) :
    HoR (XN P w K mg base f cdv A outer s H0 E) [stN 4, stN 5, stN 6] (fun σ H' => σ = sl v d m ∧ H' = H) R := by
  refine ⟨_, pss_cons (ps_if (PW.pt (pw_and (pt_val (pe_callB call_isi (by rfl) B.isin (by decide +kernel) (pa_cons (pv 0) (pa_cons (pe_bltn (v := .ty "str") (by rfl) B.str (by decide +kernel) rfl) pa_nil)))) (pw_and1 (pt_val (pe_cl Pt hr (by decide) (by rfl) pass0 (pa_cons (pv 0) pa_nil)))))) (pss_one (ps_ret (pv 0))) pss_nil)
    (pss_cons (ps_if (pt_val (pe_cl W hr (by decide) (by rfl) pass0 (pa_cons (pv 0) (pa_cons (pe_op op_sub pe_int (pe_op op_pow pe_int pe_int)) (pa_cons (pe_op op_sub (pe_op op_pow pe_int pe_int) pe_int) pa_nil))))) (pss_one (ps_ret (pv 0))) pss_nil)
    (pss_one (ps_no T))), ?_⟩
  rintro D σ H' ⟨rfl, rfl⟩ q
  cases t with
  | dir ks => exact absurd rfl (h3 ks)
  | fil i =>
    obtain ⟨rfl, hq⟩ := h1 i rfl
    refine ⟨_, rfl, _, .ty "str", _, _, false, rfl, .ty _, .base (.int i), kit_ty (by decide +kernel), _, rfl, iteF (iteF ?_)⟩
    refine ⟨_, rfl, 10, 60, rfl, rfl, ⟨by decide, by decide, by decide⟩, 1, _, rfl, rfl, 10, 60, rfl, rfl, ⟨by decide, by decide, by decide⟩, _, 1, rfl, rfl, _, _, _, _, rfl, .int i _ _, _, rfl, ite2 (fun c => ?_) (fun c => ?_)⟩
    · have hh := hq H' (Same.refl H')
      rw [if_pos (show wholeB i = true from c)] at hh
      exact ⟨_, rfl, q _ _ hh⟩
    · have hh := hq H' (Same.refl H')
      rw [if_neg (show ¬ wholeB i = true from c)] at hh
      exact hh
  | lnk z =>
    obtain ⟨rfl, hz, hq⟩ := h2 z rfl
    refine ⟨_, rfl, _, .ty "str", _, _, true, rfl, .ty _, .base (.str z), kit_ty (by decide +kernel), _, rfl, iteT ?_⟩
    refine ⟨_, rfl, _, _, rfl, .str z hz, fun H2 s2 => ⟨_, rfl, ite2 (fun c => ?_) (fun c => ?_)⟩⟩
    · have hh := hq H2 s2
      rw [if_pos c] at hh
      exact ⟨_, rfl, q _ _ hh⟩
    · have hh := hq H2 s2
      rw [if_neg c] at hh
      refine ⟨_, rfl, 10, 60, rfl, rfl, ⟨by decide, by decide, by decide⟩, 1, _, rfl, rfl, 10, 60, rfl, rfl, ⟨by decide, by decide, by decide⟩, _, 1, rfl, rfl, _, _, _, _, rfl, .other _ _ (.base (.str z)) (by decide +kernel), _, rfl, iteF ?_⟩
      exact hh
end
end Tx
set_option Elab.async false
set_option linter.all false
set_option maxRecDepth 100000
set_option maxHeartbeats 8000000
namespace Tx
open PySem PySem.Spec PyProof.Rows L2 Cm
section
variable {P : Program} {w : World} {K : PySem.W.Frag} {mg : Str → Option Value} {base : Heap} {f C : Addr} {cdv : Value} {A : Around} {outer : List Env} {s : Shared} {H0 : Hp} {E : XK}
/-- no dict: go on -/
theorem hN3n {v : V} {t : Nd} {d : Int} {m : Addr} {H : Hp} {n : Nat} (B : Bi mg) (hv : NdAt H v t) (h3 : ∀ ks, t ≠ .dir ks) :
    Ho (XN P w K mg base f cdv A outer s H0 E) (stN 3) (fun σ H' => σ = sl v d m ∧ H' = H ∧ n ≤ 61) (fun σ H' => σ = sl v d m ∧ H' = H) := by
  refine ⟨_, ps_if (pt_val (pe_callB call_isi (by rfl) B.isin (by decide +kernel) (pa_cons (pv 0) (pa_cons (pe_bltn (v := .ty "dict") (by rfl) B.dict (by decide +kernel) rfl) pa_nil)))) (pss_cons ps_never (pss_one ps_never)) pss_nil, ?_⟩
  rintro D σ H' ⟨rfl, rfl, _⟩ q
  cases hv with
  | fil i => exact ⟨_, rfl, _, .ty "dict", _, _, false, rfl, .ty _, .base (.int i), kit_ty (by decide +kernel), _, rfl, iteF (q _ _ ⟨rfl, rfl⟩)⟩
  | lnk z hz => exact ⟨_, rfl, _, .ty "dict", _, _, false, rfl, .ty _, .base (.str z), kit_ty (by decide +kernel), _, rfl, iteF (q _ _ ⟨rfl, rfl⟩)⟩
  | dir h hk hn hl hz hv => exact absurd rfl (h3 _)
/-- if not all([is_name(name) for name in thing]): raise -/
def stN3 (i : Nat) : Stmt := match stN 3 with | .If _ b _ _ => b.getD i (.Pass ⟨0, 0, 0, 0⟩) | _ => .Pass ⟨0, 0, 0, 0⟩
theorem hD0 {a : Addr} {ks : List (Str × Nd)} {kvs : List (Key × V)} {d : Int} {m : Addr} {H : Hp} (B : Bi mg) (T : No K mg C) (N : Cl P w K mg base CX0 1 "is_name" ["thing"] (spName K)) (hr : Room 2 (XN P w K mg base f cdv A outer s H0 E).A)
    (h : H a = some (.dK kvs)) (hk : kvs.map (·.1) = ks.map fun p => (Sum.inr p.1 : Key)) (hl : ks.length < 64) (hz : ∀ p ∈ ks, p.1.length ≤ 100000) (hx : (ks.all fun p => nameB p.1) = false → ∀ H', Same H H' → E (.ref C) none H') :
    Ho (XN P w K mg base f cdv A outer s H0 E) (stN3 0) (fun σ H' => σ = sl (.ref a) d m ∧ H' = H) (fun σ H' => σ = sl (.ref a) d m ∧ Same H H' ∧ (ks.all fun p => nameB p.1) = true) := by
  refine ⟨_, ps_if (pt_not (pt_val (pe_callB (cr_all rfl) (by rfl) B.all (by decide +kernel) (pa_cons (pe_lock (pe_lc (own := [("name", 3)]) (g := gName 3) (tt := tYes) (by rfl) scNode.nd (pi_keys (pv 0)) (blkOk_by (own := [("name", 3)]) (N := nN) (sc := defScope sNode) (by decide +kernel)) (fun _ _ _ _ _ => pg_name (i := 3) scNode.nd rfl (Or.inl rfl)) (fun _ _ _ _ _ => pts_nil) (fun _ _ _ _ _ => pe_cl N hr (by decide) (by rfl) pass0 (pa_cons (pv 3) pa_nil)))) pa_nil)))) (pss_one (ps_no T)) pss_nil, ?_⟩
  rintro D σ H' ⟨rfl, rfl⟩ q
  have hlen : kvs.length = ks.length := by
    have e := congrArg List.length hk
    rw [List.length_map, List.length_map] at e
    exact e
  refine ⟨a, .dK kvs, h, True.intro, fun od => ?_⟩
  refine ⟨_, rfl, a, od, rfl, .inl ⟨kvs, upd_same, fun L hL => lc_it walk_keys (fun i H2 => H2 L = some (.lst (((ks.map fun p => nameB p.1).take i).map V.bl)) ∧ H2 a = some (.frz od (.dK kvs)) ∧ ∀ b o, b ≠ a → H' b = some o → H2 b = some o) ?_ (fun i H2 _ h2 => h2.2.1) ?_ ?_⟩⟩
  · have na : a ≠ L := ne_of_none (show upd H' a _ a = some _ from upd_same) hL
    refine ⟨upd_same, by rw [upd_ne na]; exact upd_same, fun b o nb e => ?_⟩
    have e2 : upd H' a (.frz od (.dK kvs)) b = some o := by rw [upd_ne nb]; exact e
    rw [upd_ne (ne_of_none e2 hL)]
    exact e2
  · rintro i x H1 H2 hi ⟨h1, h2, h3⟩ ⟨rfl, k, v, hkv, rfl⟩
    have na : a ≠ L := ne_of_none (show upd H' a _ a = some _ from upd_same) hL
    have hi' : i < ks.length := by omega
    have ek : k = Sum.inr ks[i].1 := by
      have e1 : (kvs.map (·.1))[i]? = some k := by rw [List.getElem?_map, hkv]; rfl
      rw [hk, List.getElem?_map, List.getElem?_eq_getElem hi'] at e1
      exact (Option.some.inj e1).symm
    subst ek
    refine ⟨rfl, _, rfl, _, _, rfl, .str ks[i].1 (hz _ (List.getElem_mem hi')), fun H3 s3 => ?_⟩
    have eg : (ks.map fun p => nameB p.1)[i]? = some (nameB ks[i].1) := by
      rw [List.getElem?_map, List.getElem?_eq_getElem hi']
      rfl
    refine ⟨_, s3 _ _ h1, small1000 ?_, ?_, ?_, fun b o nb e => ?_⟩
    · rw [List.length_map, List.length_take, List.length_map]
      omega
    · rw [upd_same, take_snoc eg, List.map_append]
      rfl
    · rw [upd_ne na]
      exact s3 _ _ h2
    · have nL : H' L = none := by
        cases e0 : H' L with
        | none => rfl
        | some o0 =>
          exfalso
          have z : upd H' a (.frz od (.dK kvs)) L = some o0 := by rw [upd_ne na.symm]; exact e0
          rw [z] at hL
          cases hL
      rw [upd_ne (ne_of_none e nL)]
      exact s3 _ _ (h3 b o nb e)
  · rintro H1 ⟨h1, h2, h3⟩
    have na : a ≠ L := ne_of_none (show upd H' a _ a = some _ from upd_same) hL
    have e : (ks.map fun p => nameB p.1).take kvs.length = ks.map fun p => nameB p.1 := List.take_of_length_le (by rw [List.length_map]; omega)
    rw [e] at h1
    have sm : Same H' (upd H1 a (.dK kvs)) := fun b o e => by
      by_cases eb : b = a
      · subst eb
        rw [upd_same, ← h]
        exact e
      · rw [upd_ne eb]
        exact h3 b o eb e
    refine ⟨h2, L, _, rfl, SqL.of (by rw [upd_ne na.symm]; exact h1), _, rfl, ?_⟩
    have ea : (ks.map fun p => nameB p.1).all id = ks.all fun p => nameB p.1 := by
      rw [List.all_map]
      rfl
    rw [ea]
    cases c : (ks.all fun p => nameB p.1) with
    | true => exact iteF (q _ _ ⟨rfl, sm, c⟩)
    | false => exact iteT (hx c _ sm)
end
end Tx
set_option Elab.async false
set_option linter.all false
set_option maxRecDepth 100000
set_option maxHeartbeats 8000000
namespace Tx
open PySem PySem.Spec PyProof.Rows L2 Cm
/-- all but m and D stay -/
def But2 (m D : Addr) (H H' : Hp) : Prop := ∀ b o, b ≠ m → b ≠ D → H b = some o → H' b = some o
/-- what holds of the new dict at D when i names are done -/
structure DcI (f : Nd → Nat → Option (Nd × Nat)) (S : List (Str × Nd)) (n0 : Nat) (HD : Hp) (m D : Addr) (i : Nat) (H' : Hp) (r : List (Str × Nd)) (n : Nat) (kvs : List (Key × V)) (ms : List V) : Prop where
  nvs : nvs f (S.take i) n0 = some (r, n)
  d : H' D = some (.dK kvs)
  k : kvs.map (·.1) = r.map fun p => (Sum.inr p.1 : Key)
  v : ∀ (j : Nat) (kv : Key × V) (p : Str × Nd), kvs[j]? = some kv → r[j]? = some p → NdAt (newIn HD H') kv.2 p.2
  mm : H' m = some (.lst ms)
  ml : ms.length = n
  b : But2 m D HD H'
theorem DcI.next {f : Nd → Nat → Option (Nd × Nat)} {S : List (Str × Nd)} {n0 : Nat} {HD H1 H2 : Hp} {m D : Addr} {i n n' : Nat} {r : List (Str × Nd)} {kvs : List (Key × V)} {ms ms' : List V} {p : Str × Nd} {t' : Nd} {v' : V}
    (I : DcI f S n0 HD m D i H1 r n kvs ms) (hS : (S.map (·.1)).Nodup) (hp : S[i]? = some p) (hf : f p.2 n = some (t', n')) (hmD : m ≠ D) (hDm : ∃ o, HD m = some o) (hDD : ∃ o, HD D = some o)
    (hv : NdAt (newIn H1 H2) v' t') (hm : H2 m = some (.lst ms')) (hl : ms'.length = n') (hb : But m H1 H2) :
    H2 D = some (.dK kvs) ∧ DcI f S n0 HD m D (i + 1) (upd H2 D (.dK (putK kvs (Sum.inr p.1) v'))) (r ++ [(p.1, t')]) n' (putK kvs (Sum.inr p.1) v') ms' := by
  have hD2 : H2 D = some (.dK kvs) := hb D _ hmD.symm I.d
  have hlen : kvs.length = r.length := by
    have e := congrArg List.length I.k
    rw [List.length_map, List.length_map] at e
    exact e
  have hrn : r.map (·.1) = (S.take i).map (·.1) := nvs_names I.nvs
  have hnew : valV kvs (Sum.inr p.1 : Key) = none := by
    unfold valV
    have z : kvs.find? (fun q => decide (q.1 = (Sum.inr p.1 : Key))) = none := by
      rw [List.find?_eq_none]
      intro q hq c
      have c' : q.1 = (Sum.inr p.1 : Key) := of_decide_eq_true c
      have h1 : (Sum.inr p.1 : Key) ∈ kvs.map (·.1) := List.mem_map.mpr ⟨q, hq, c'⟩
      rw [I.k] at h1
      obtain ⟨q2, hq2, e2⟩ := List.mem_map.mp h1
      have e3 : q2.1 = p.1 := Sum.inr.inj e2
      have h3 : p.1 ∈ (S.take i).map (·.1) := by
        rw [← hrn, ← e3]
        exact List.mem_map.mpr ⟨q2, hq2, rfl⟩
      have hS2 : ((S.take (i + 1)).map (·.1)).Nodup := by
        have q : (S.take (i + 1)).Sublist S := List.take_sublist _ _
        exact (q.map _).nodup hS
      rw [take_snoc hp, List.map_append, List.nodup_append] at hS2
      exact hS2.2.2 p.1 h3 p.1 (by simp) rfl
    rw [z]
    rfl
  have hput : putK kvs (Sum.inr p.1 : Key) v' = kvs ++ [(Sum.inr p.1, v')] := putK_new v' hnew
  have kp1 : DKeep (newIn HD H1) (newIn HD (upd H2 D (.dK (putK kvs (Sum.inr p.1) v')))) := newIn_part (fun b o h => ⟨o, h⟩) fun b k h0 h1 => by
    have nD : b ≠ D := fun z => by
      obtain ⟨o, e⟩ := hDD
      rw [z, e] at h0
      cases h0
    have nm : b ≠ m := fun z => by
      obtain ⟨o, e⟩ := hDm
      rw [z, e] at h0
      cases h0
    rw [upd_ne nD]
    exact hb b _ nm h1
  have kp2 : DKeep (newIn H1 H2) (newIn HD (upd H2 D (.dK (putK kvs (Sum.inr p.1) v')))) := newIn_part (fun b o h => by
    by_cases c1 : b = m
    · exact ⟨_, by rw [c1]; exact I.mm⟩
    · by_cases c2 : b = D
      · exact ⟨_, by rw [c2]; exact I.d⟩
      · exact ⟨o, I.b b o c1 c2 h⟩) fun b k h0 h1 => by
    have nD : b ≠ D := fun z => by
      rw [z, I.d] at h0
      cases h0
    rw [upd_ne nD]
    exact h1
  refine ⟨hD2, ⟨nvs_next hp I.nvs hf, upd_same, ?_, ?_, ?_, hl, ?_⟩⟩
  · rw [hput, List.map_append, List.map_append, I.k]
    rfl
  · rw [hput]
    intro j kv q h1 h2
    by_cases c : j < kvs.length
    · rw [List.getElem?_append_left c] at h1
      rw [List.getElem?_append_left (by omega)] at h2
      have z := (I.v j kv q h1 h2).mono kp1
      rw [hput] at z
      exact z
    · rw [List.getElem?_append_right (by omega)] at h1 h2
      have e : j - kvs.length = 0 := by
        cases e : j - kvs.length with
        | zero => rfl
        | succ k =>
          rw [e] at h1
          cases h1
      rw [← hlen, e] at h2
      rw [e] at h1
      cases h1
      cases h2
      have z := hv.mono kp2
      rw [hput] at z
      exact z
  · rw [upd_ne hmD]
    exact hm
  · intro b o n1 n2 h
    rw [upd_ne n2]
    exact hb b o n1 (I.b b o n1 n2 h)
section
variable {P : Program} {w : World} {K : PySem.W.Frag} {mg : Str → Option Value} {base : Heap} {f C : Addr} {cdv : Value} {A : Around} {outer : List Env} {s : Shared} {H0 : Hp} {E : XK}
/-- return {name: node_value(thing[name], depth + 1, met) for name in sorted(thing)} -/
theorem hD1 {pr : Prop} {g j : Nat} {a : Addr} {ks : List (Str × Nd)} {m : Addr} {H : Hp} {ms : List V} (B : Bi mg) (R : VK) (NX : Cl P w K mg base (L2.CX P w) j "node_value" ["thing", "depth", "met"] (spNode C g)) (hr : Room j (XN P w K mg base f cdv A outer s H0 E).A)
    (hH : NdAt H (.ref a) (.dir ks)) (hm : H m = some (.lst ms)) (hms : ms.length ≤ 61)
    (hq : pr → ∀ ks' n, nvs (nv g) (sortK ks) ms.length = some (ks', n) → ∀ D ms' H', NdAt (newIn H H') (.ref D) (.dir ks') → H' m = some (.lst ms') → ms'.length = n → But m H H' → R (.ref D) H')
    (hx : pr → nvs (nv g) (sortK ks) ms.length = none → ∀ H', But m H H' → (∃ ms', H' m = some (.lst ms')) → E (.ref C) none H') :
    HoR (XN P w K mg base f cdv A outer s H0 E) [stN3 1] (fun σ H' => σ = sl (.ref a) (8 - (g : Int)) m ∧ Same H H' ∧ pr) R := by
  have hu : (XN P w K mg base f cdv A outer s H0 E).A.units + 1 < cLine := by
    have := hr.units
    omega
  refine ⟨_, pss_one (ps_ret (DcE.pe_dcE (own := [("name", 3)]) (g := gName 3) (E := E) (by rfl) scNode.nd (takes_of rfl rfl rfl rfl) (by rfl) (by rfl) (pi_list (pe_callB (call_sortedD rfl) (by rfl) B.sorted boot_sorted (pa_cons (pv 0) pa_nil))) (blkOk_by (own := [("name", 3)]) (N := nN) (sc := defScope sNode) (by decide +kernel)) (fun _ _ _ _ _ => pg_name (i := 3) scNode.nd rfl (Or.inl rfl)) (fun _ _ _ _ _ => pv 3)
    (fun _ _ _ _ _ _ hP => pe_cl NX hr (Nat.le_refl _) (by rfl) hP (pa_cons (pe_dget hu (pv 0) (pv 3) (fun _ _ => rfl)) (pa_cons (pe_op op_add (pv 1) pe_int) (pa_cons (pv 2) pa_nil)))))), ?_⟩
  rintro D0 σ H' ⟨rfl, sm, hpr⟩ q
  replace hq := fun ks' n e D ms' H2 (hN : NdAt (newIn H' H2) (.ref D) (.dir ks')) hM hL (hB : But m H' H2) => hq hpr ks' n e D ms' H2 (hN.mono (newIn_part (fun b o eb => ⟨o, sm _ _ eb⟩) fun _ _ _ e => e)) hM hL ((Same.but m sm).trans hB)
  replace hx := fun e H2 (hB : But m H' H2) hM => hx hpr e H2 ((Same.but m sm).trans hB) hM
  replace hH := hH.mono (DKeep.same sm)
  replace hm := sm _ _ hm
  clear sm hpr
  cases hH with
  | @dir _ kvs _ h hk hn hl hz hv =>
  have hk0 : kvs.map (·.1) = (ks.map (·.1)).map (Sum.inr : Str → Key) := by
    rw [List.map_map]
    exact hk
  refine ⟨_, rfl, a, kvs, ks.map (·.1), rfl, .inl h, hk0, by rw [List.length_map]; exact hl, fun ys p hp hs hpn => ?_⟩
  have eys : ys = (sortK ks).map (·.1) := sortK_names hp hs
  subst eys
  obtain ⟨HS, eHS⟩ : ∃ HS, HS = upd H' p (.lst (((sortK ks).map (·.1)).map V.str)) := ⟨_, rfl⟩
  rw [← eHS]
  have hSp : HS p = some (.lst (((sortK ks).map (·.1)).map V.str)) := by rw [eHS]; exact upd_same
  have sS : Same H' HS := by rw [eHS]; exact same_new hpn
  refine ⟨p, rfl, ⟨_, SqL.of hSp⟩, fun D hD => ?_⟩
  have hmS : HS m = some (.lst ms) := sS _ _ hm
  have mD : m ≠ D := ne_of_none hmS hD
  have pD : p ≠ D := ne_of_none hSp hD
  have aD : a ≠ D := ne_of_none (sS _ _ h) hD
  have am : a ≠ m := fun z => by
    rw [z, hm] at h
    cases h
  have pm : p ≠ m := fun z => by
    rw [z, hm] at hpn
    cases hpn
  have keepH : ∀ {b o}, H' b = some o → b ≠ D := fun {b o} e => ne_of_none (sS _ _ e) hD
  have hkn : (kvs.map (·.1)).Nodup := by
    rw [hk0]
    unfold List.Nodup at hn ⊢
    rw [List.pairwise_map]
    exact hn.imp fun h e => h (Sum.inr.inj e)
  obtain ⟨HD, eHD⟩ : ∃ HD, HD = upd HS D (.dK []) := ⟨_, rfl⟩
  have hDm : HD m = some (.lst ms) := by rw [eHD, upd_ne mD]; exact hmS
  have hDp : HD p = some (.lst (((sortK ks).map (·.1)).map V.str)) := by rw [eHD, upd_ne pD]; exact hSp
  have hDD : HD D = some (.dK []) := by rw [eHD]; exact upd_same
  have HtoD : ∀ b o, H' b = some o → HD b = some o := fun b o e => by
    rw [eHD, upd_ne (keepH e)]
    exact sS _ _ e
  refine DcE.dce_list (K := K) (xs := ((sortK ks).map (·.1)).map V.str) (fun i H2 => ∃ r n kv2 ms2, DcI (nv g) (sortK ks) ms.length HD m D i H2 r n kv2 ms2) ?_ ?_ ?_ ?_
  · rw [← eHD]
    exact ⟨[], ms.length, [], ms, rfl, hDD, rfl, fun j kv p e => by simp at e, hDm, rfl, fun b o _ _ e => e⟩
  · rintro i H2 _ ⟨r, n, kv2, ms2, I⟩
    exact SqL.of (I.b p _ pm pD hDp)
  · rintro i x H2 hi ⟨r, n, kv2, ms2, I⟩
    obtain ⟨pr, hpr, rfl⟩ : ∃ pr, (sortK ks)[i]? = some pr ∧ x = .str pr.1 := by
      rw [List.map_map, List.getElem?_map] at hi
      cases e : (sortK ks)[i]? with
      | none =>
        rw [e] at hi
        cases hi
      | some pr =>
        rw [e] at hi
        exact ⟨pr, rfl, (Option.some.inj hi).symm⟩
    have hmem : pr ∈ ks := sortK_mem.mp (List.mem_of_getElem? hpr)
    obtain ⟨j0, hj0⟩ := List.getElem?_of_mem hmem
    have hlen : kvs.length = ks.length := by
      have e := congrArg List.length hk
      rw [List.length_map, List.length_map] at e
      exact e
    have hjl : j0 < kvs.length := by
      rw [hlen]
      exact (List.getElem?_eq_some_iff.mp hj0).1
    obtain ⟨kv, hkv⟩ : ∃ kv, kvs[j0]? = some kv := ⟨_, List.getElem?_eq_getElem hjl⟩
    have ekv : kv.1 = Sum.inr pr.1 := by
      have e1 : (kvs.map (·.1))[j0]? = some kv.1 := by rw [List.getElem?_map, hkv]; rfl
      rw [hk, List.getElem?_map, hj0] at e1
      exact (Option.some.inj e1).symm
    have hget : valV kvs (Sum.inr pr.1 : Key) = some kv.2 := valV_at hkn (by rw [hkv, ← ekv])
    have h2a : H2 a = some (.dK kvs) := I.b a _ am aD (HtoD _ _ h)
    have hle : n ≤ 61 := nvs_le (nv_le g) hms I.nvs
    have hch : NdAt H2 kv.2 pr.2 := (hv j0 kv pr hkv hj0).mono fun b kvb e => I.b b _ (fun z => by
      rw [z, hm] at e
      cases e) (keepH e) (HtoD _ _ e)
    refine ⟨rfl, _, rfl, _, rfl, _, rfl, a, kv.2, rfl, ?_, ?_⟩
    · have z := DGet.k (k := (Sum.inr pr.1 : Key)) h2a
      rw [hget] at z
      exact z
    refine ⟨_, rfl, _, _, rfl, rfl, _, rfl, kv.2, pr.2, m, ms2, ?_, hch, I.mm, by rw [I.ml]; exact hle, ?_, ?_⟩
    · have e : (8 - (g : Int)) + 1 = 9 - (g : Int) := by omega
      rw [← e]
      rfl
    · intro t' n' e v' ms' H3 hv' hm' hl' hb'
      rw [I.ml] at e
      obtain ⟨z1, z2⟩ := I.next (sortK_nodup hn) hpr e mD ⟨_, hDm⟩ ⟨_, hDD⟩ hv' hm' hl' hb'
      refine ⟨kv2, Sum.inr pr.1, rfl, z1, small1000 ?_, _, _, _, _, z2⟩
      have e1 := congrArg List.length I.k
      rw [List.length_map, List.length_map] at e1
      have e2 := congrArg List.length (nvs_names I.nvs)
      rw [List.length_map, List.length_map, List.length_take] at e2
      have e3 := sortK_len ks
      omega
    · intro e H3 hb' hm'
      rw [I.ml] at e
      refine hx (nvs_stop hpr I.nvs e) H3 (fun b o nb eb => ?_) hm'
      exact hb' b o nb (I.b b o nb (keepH eb) (HtoD _ _ eb))
  · rintro H2 ⟨r, n, kv2, ms2, I⟩
    have e : (sortK ks).take (((sortK ks).map (·.1)).map V.str).length = sortK ks := List.take_of_length_le (by rw [List.length_map, List.length_map]; exact Nat.le_refl _)
    have hnvs := I.nvs
    rw [e] at hnvs
    have er : r.map (·.1) = (sortK ks).map (·.1) := nvs_names hnvs
    refine q _ _ (hq r n hnvs D ms2 H2 ?_ I.mm I.ml fun b o nb eb => I.b b o nb (keepH eb) (HtoD _ _ eb))
    have hDn : H' D = none := by
      cases e0 : H' D with
      | none => rfl
      | some o =>
        rw [sS _ _ e0] at hD
        cases hD
    refine .dir (by rw [newIn_of hDn]; exact I.d) I.k (by rw [er]; exact sortK_nodup hn) ?_ ?_ ?_
    · have e3 := congrArg List.length er
      rw [List.length_map, List.length_map, sortK_len] at e3
      omega
    · intro q0 hq0
      have z : q0.1 ∈ (sortK ks).map (·.1) := by
        rw [← er]
        exact List.mem_map.mpr ⟨q0, hq0, rfl⟩
      obtain ⟨q1, hq1, e1⟩ := List.mem_map.mp z
      rw [← e1]
      exact hz _ (sortK_mem.mp hq1)
    · intro i kv p0 e1 e2
      refine (I.v i kv p0 e1 e2).mono (newIn_part (fun b o eb => ⟨o, HtoD _ _ eb⟩) fun b kb _ eb => eb)
/-- a dict -/
theorem hN3d {g j : Nat} {a : Addr} {ks : List (Str × Nd)} {m : Addr} {H : Hp} {ms : List V} {x : Nat} (B : Bi mg) (T : No K mg C) (R : VK) (N : Cl P w K mg base CX0 1 "is_name" ["thing"] (spName K)) (NX : Cl P w K mg base (L2.CX P w) j "node_value" ["thing", "depth", "met"] (spNode C g)) (hr : Room j (XN P w K mg base f cdv A outer s H0 E).A) (hj : 2 ≤ j)
    (hH : NdAt H (.ref a) (.dir ks)) (hm : H m = some (.lst ms)) (hms : ms.length ≤ 61)
    (hq : (ks.all fun p => nameB p.1) = true → ∀ ks' n, nvs (nv g) (sortK ks) ms.length = some (ks', n) → ∀ D ms' H', NdAt (newIn H H') (.ref D) (.dir ks') → H' m = some (.lst ms') → ms'.length = n → But m H H' → R (.ref D) H')
    (hx : (ks.all fun p => nameB p.1) = false ∨ nvs (nv g) (sortK ks) ms.length = none → ∀ H', But m H H' → (∃ ms', H' m = some (.lst ms')) → E (.ref C) none H') :
    HoR (XN P w K mg base f cdv A outer s H0 E) [stN 3, stN 4, stN 5, stN 6] (fun σ H' => σ = sl (.ref a) (8 - (g : Int)) m ∧ H' = H ∧ x ≤ 61) R := by
  cases hH with
  | @dir _ kvs _ h hk hn hl hz hv =>
  have b0 := hD0 (s := s) (H0 := H0) (E := E) (A := A) (outer := outer) (cdv := cdv) (d := 8 - (g : Int)) (m := m) B T N (hr.mono hj) h hk hl hz (fun c H' sm => hx (.inl c) H' (Same.but m sm) ⟨ms, sm _ _ hm⟩)
  obtain ⟨t0, p0, r0⟩ := b0
  obtain ⟨t1, p1, r1⟩ := hD1 (s := s) (H0 := H0) (E := E) (A := A) (outer := outer) (cdv := cdv) (f := f) (pr := (ks.all fun p => nameB p.1) = true) B R NX hr (.dir h hk hn hl hz hv) hm hms hq (fun _ e => hx (.inr e))
  refine ⟨_, pss_cons (ps_if (pt_val (pe_callB call_isi (by rfl) B.isin (by decide +kernel) (pa_cons (pv 0) (pa_cons (pe_bltn (v := .ty "dict") (by rfl) B.dict (by decide +kernel) rfl) pa_nil)))) (pss_cons p0 p1) pss_nil) (pss_cons ps_never (pss_cons ps_never (pss_one ps_never))), ?_⟩
  rintro D σ H' ⟨rfl, rfl, _⟩ q
  refine ⟨_, rfl, _, .ty "dict", _, _, true, rfl, .ty _, .base (.dK h), kit_ty (by decide +kernel), _, rfl, iteT ?_⟩
  exact r0 _ _ _ ⟨rfl, rfl⟩ fun σ' H2 z => r1 _ _ _ z q
end
end Tx
set_option Elab.async false
set_option linter.all false
set_option maxRecDepth 100000
set_option maxHeartbeats 8000000
namespace Tx
open PySem PySem.Spec PyProof.Rows L2 Cm
theorem bodyNode : defBody sNode = [stN 0, stN 1, stN 2, stN 3, stN 4, stN 5, stN 6] := rfl
theorem HoR.never {X : Cx} {p : L2.St → Hp → Prop} {R : VK} (hp : ∀ σ H, ¬ p σ H) : ∀ sts : List Stmt, HoR X sts p R
  | [] => ⟨_, pss_nil, fun D σ H h => absurd h (hp σ H)⟩
  | st :: r => by
    obtain ⟨t, ht, h⟩ := HoR.never (X := X) (R := R) hp r
    exact ⟨_, pss_cons ps_never ht, fun D σ H h => absurd h (hp σ H)⟩
theorem nv_succ (g : Nat) (t : Nd) (n : Nat) : nv (g + 1) t n = if 61 < n + 1 then none else match t with
    | .fil i => if wholeB i then some (.fil i, n + 1) else none
    | .lnk z => if pathB z then some (.lnk z, n + 1) else none
    | .dir ks => if ks.all fun p => nameB p.1 then (match nvs (nv g) (sortK ks) (n + 1) with
      | some (ks', m) => some (.dir ks', m)
      | none => none) else none := by
  cases t <;> rfl
section
variable {P : Program} {w : World} {K : PySem.W.Frag} {mg : Str → Option Value} {base : Heap} {f C : Addr} {fd : FuncData}
theorem ok_node (F : Fun K "node_value" "node_value" sNode f fd) (hm : mg "node_value" = some (.ref f)) (hb : Binds K fd ["thing", "depth", "met"] []) (B : Bi mg) (Cn : Co mg) (T : No K mg C)
    (W : Cl P w K mg base CX0 1 "is_whole" ["thing", "low", "high"] (spWhole K)) (N : Cl P w K mg base CX0 1 "is_name" ["thing"] (spName K)) (Pt : Cl P w K mg base CX0 2 "is_path" ["thing"] (spPath K)) :
    ∀ g, FnOk P w K mg base (L2.CX P w) (g + 3) f fd ["thing", "depth", "met"] (spNode C g)
  | 0 => by
    refine F.okX scNode (fun vs H Q E h => ?_) (fun cdv A outer s H vs Q E hr h => ?_)
    · obtain ⟨v, t, m, ms, rfl, _⟩ := h
      rfl
    · obtain ⟨v, t, m, ms, rfl, hv, hm, hl, _, hE⟩ := h
      rw [bodyNode]
      have q : HoR (XN P w K mg base f cdv A outer s H E) [stN 0, stN 1, stN 2, stN 3, stN 4, stN 5, stN 6] (fun σ H' => σ = sl v 9 m ∧ H' = H) Q := HoR.cons (hN0 hm hl) (HoR.cons (hN1 Cn T (fun _ => hE rfl _ But.upd ⟨_, upd_same⟩)) (HoR.never (fun σ H' h => by
        obtain ⟨_, _, h8⟩ := h
        omega) _))
      obtain ⟨t, ht, hq⟩ := q
      exact ⟨t, ht, hq _ _ _ ⟨rfl, rfl⟩ fun _ _ h => h⟩
  | g + 1 => by
    have ih := ok_node F hm hb B Cn T W N Pt g
    have NX : Cl P w K mg base (L2.CX P w) (g + 3) "node_value" ["thing", "depth", "met"] (spNode C g) := ⟨f, fd, ih, hm, F.kp, hb⟩
    refine F.okX scNode (fun vs H Q E h => ?_) (fun cdv A outer s H vs Q E hr h => ?_)
    · obtain ⟨v, t, m, ms, rfl, _⟩ := h
      rfl
    · obtain ⟨v, t, m, ms, rfl, hv, hm, hl, hQ, hE⟩ := h
      rw [bodyNode]
      have hr' : Room (g + 3) (XN P w K mg base f cdv A outer s H E).A := hr
      have ed : (9 - ((g + 1 : Nat) : Int)) = 8 - (g : Int) := by omega
      rw [ed]
      obtain ⟨ms1, e1⟩ : ∃ ms1 : List V, ms1 = ms ++ [.int (8 - (g : Int))] := ⟨_, rfl⟩
      obtain ⟨H1, eH⟩ : ∃ H1, H1 = upd H m (.lst ms1) := ⟨_, rfl⟩
      have l1 : ms1.length = ms.length + 1 := by
        rw [e1, List.length_append]
        rfl
      have hm1 : H1 m = some (.lst ms1) := by rw [eH]; exact upd_same
      have b1 : But m H H1 := by rw [eH]; exact But.upd
      have hv1 : NdAt H1 v t := hv.mono (DKeep.but b1 hm (by intro _ z; cases z))
      have a0 := hN0 (P := P) (w := w) (K := K) (mg := mg) (base := base) (f := f) (cdv := cdv) (A := A) (outer := outer) (s := s) (H0 := H) (E := E) (v := v) (d := 8 - (g : Int)) hm hl
      rw [← e1, ← eH] at a0
      have a1 := hN1 (P := P) (w := w) (base := base) (f := f) (cdv := cdv) (A := A) (outer := outer) (s := s) (H0 := H) (E := E) (v := v) (d := 8 - (g : Int)) (m := m) (H := H1) Cn T (fun h => by omega)
      have a2 := hN2 (P := P) (w := w) (base := base) (f := f) (cdv := cdv) (A := A) (outer := outer) (s := s) (H0 := H) (E := E) (v := v) (d := 8 - (g : Int)) B Cn T hm1 (fun h => hE (by rw [nv_succ, if_pos (by omega)]) H1 b1 ⟨_, hm1⟩)
      by_cases h61 : 61 < ms.length + 1
      · obtain ⟨t', ht, hq⟩ := HoR.cons a0 (HoR.cons a1 (HoR.cons a2 (HoR.never (R := Q) (fun σ H' h => by
          obtain ⟨_, _, h8⟩ := h
          omega) [stN 3, stN 4, stN 5, stN 6])))
        exact ⟨t', ht, hq _ _ _ ⟨rfl, rfl⟩ fun _ _ h => h⟩
      · rw [nv_succ, if_neg h61] at hQ hE
        cases t with
        | dir ks =>
          obtain ⟨a, rfl⟩ : ∃ a, v = .ref a := by
            cases hv
            exact ⟨_, rfl⟩
          dsimp only at hQ hE
          have a3 := hN3d (cdv := cdv) (A := A) (outer := outer) (s := s) (H0 := H) (E := E) (f := f) (x := ms1.length) B T Q N NX hr' (by omega) hv1 hm1 (by omega) (fun hall ks' n e D ms' H' hN hM hL hB => by
            rw [if_pos hall] at hQ
            rw [l1] at e
            rw [e] at hQ
            exact hQ (.dir ks') n rfl _ ms' H' (hN.mono (newIn_part (fun b o eb => by
              by_cases c : b = m
              · exact ⟨_, by rw [c]; exact hm1⟩
              · exact ⟨_, b1 _ _ c eb⟩) fun _ _ _ e => e)) hM hL (b1.trans hB)) (fun c H' hB hM => by
            refine hE ?_ H' (b1.trans hB) hM
            rcases c with c | c
            · rw [if_neg (by rw [c]; simp)]
            · rw [l1] at c
              rw [c]
              split <;> rfl)
          obtain ⟨t', ht, hq⟩ := HoR.cons a0 (HoR.cons a1 (HoR.cons a2 a3))
          exact ⟨t', ht, hq _ _ _ ⟨rfl, rfl⟩ fun _ _ h => h⟩
        | fil i =>
          obtain rfl : v = .int i := by
            cases hv
            rfl
          dsimp only at hQ hE
          have a3 := hN3n (P := P) (w := w) (K := K) (mg := mg) (base := base) (f := f) (cdv := cdv) (A := A) (outer := outer) (s := s) (H0 := H) (E := E) (d := 8 - (g : Int)) (m := m) (n := ms1.length) B hv1 (fun _ z => by cases z)
          have a4 := hN4 (cdv := cdv) (A := A) (outer := outer) (s := s) (H0 := H) (E := E) (f := f) (H := H1) (v := .int i) (t := .fil i) (d := 8 - (g : Int)) (m := m) B T W Pt (hr'.mono (by omega)) Q (fun i' z => by
            cases z
            refine ⟨rfl, fun H' sm => ?_⟩
            by_cases c : wholeB i = true
            · rw [if_pos c]
              rw [if_pos c] at hQ
              exact hQ _ _ rfl _ ms1 H' (.fil i) (sm _ _ hm1) l1 (b1.trans (Same.but m sm))
            · rw [if_neg c]
              rw [if_neg c] at hE
              exact hE rfl H' (b1.trans (Same.but m sm)) ⟨_, sm _ _ hm1⟩) (fun z h => by cases h) (fun _ z => by cases z)
          obtain ⟨t', ht, hq⟩ := HoR.cons a0 (HoR.cons a1 (HoR.cons a2 (HoR.cons a3 a4)))
          exact ⟨t', ht, hq _ _ _ ⟨rfl, rfl⟩ fun _ _ h => h⟩
        | lnk z =>
          obtain ⟨rfl, hz⟩ : v = .str z ∧ z.length ≤ 100000 := by
            cases hv with
            | lnk _ hz => exact ⟨rfl, hz⟩
          dsimp only at hQ hE
          have a3 := hN3n (P := P) (w := w) (K := K) (mg := mg) (base := base) (f := f) (cdv := cdv) (A := A) (outer := outer) (s := s) (H0 := H) (E := E) (d := 8 - (g : Int)) (m := m) (n := ms1.length) B hv1 (fun _ z => by cases z)
          have a4 := hN4 (cdv := cdv) (A := A) (outer := outer) (s := s) (H0 := H) (E := E) (f := f) (H := H1) (v := .str z) (t := .lnk z) (d := 8 - (g : Int)) (m := m) B T W Pt (hr'.mono (by omega)) Q (fun i' z => by cases z) (fun z' h => by
            cases h
            refine ⟨rfl, hz, fun H' sm => ?_⟩
            by_cases c : pathB z = true
            · rw [if_pos c]
              rw [if_pos c] at hQ
              exact hQ _ _ rfl _ ms1 H' (.lnk z hz) (sm _ _ hm1) l1 (b1.trans (Same.but m sm))
            · rw [if_neg c]
              rw [if_neg c] at hE
              exact hE rfl H' (b1.trans (Same.but m sm)) ⟨_, sm _ _ hm1⟩) (fun _ z => by cases z)
          obtain ⟨t', ht, hq⟩ := HoR.cons a0 (HoR.cons a1 (HoR.cons a2 (HoR.cons a3 a4)))
          exact ⟨t', ht, hq _ _ _ ⟨rfl, rfl⟩ fun _ _ h => h⟩
end
end Tx
set_option Elab.async false
set_option linter.all false
set_option maxRecDepth 100000
set_option maxHeartbeats 4000000
namespace Tx
open PySem PySem.Spec PyProof.Rows L2 Cm
/-! ### nodes by their paths -/
mutual
def sz : Nd → Nat
  | .fil _ => 1
  | .lnk _ => 1
  | .dir ks => 1 + szs ks
def szs : List (Str × Nd) → Nat
  | [] => 0
  | (_, t) :: r => sz t + szs r
end
def kidL : List (Str × Nd) → Str → Option Nd
  | [], _ => none
  | (k, t) :: r, n => if k = n then some t else kidL r n
def kid : Nd → Str → Option Nd
  | .dir ks, n => kidL ks n
  | _, _ => none
def sub : Nd → List Str → Option Nd
  | t, [] => some t
  | t, n :: p => match kid t n with
    | some u => sub u p
    | none => none
theorem sub_append (t : Nd) : ∀ (p q : List Str), sub t (p ++ q) = match sub t p with | some u => sub u q | none => none
  | [], q => rfl
  | n :: p, q => by
    show (match kid t n with | some u => sub u (p ++ q) | none => none) = match (match kid t n with | some u => sub u p | none => none) with | some u => sub u q | none => none
    cases kid t n with
    | none => rfl
    | some u => exact sub_append u p q
theorem sub_snoc {t u : Nd} {p : List Str} {n : Str} (h : sub t p = some u) : sub t (p ++ [n]) = kid u n := by
  rw [sub_append, h]
  show (match kid u n with | some v => sub v [] | none => none) = kid u n
  cases kid u n <;> rfl
theorem kidL_mem : ∀ {ks : List (Str × Nd)} {n : Str} {t : Nd}, kidL ks n = some t → ∃ i : Nat, ks[i]? = some (n, t)
  | [], n, t, h => by cases h
  | (k, u) :: r, n, t, h => by
    unfold kidL at h
    split at h
    · rename_i e
      cases h
      exact ⟨0, by rw [e]; rfl⟩
    · obtain ⟨i, hi⟩ := kidL_mem h
      exact ⟨i + 1, hi⟩
theorem kidL_at : ∀ {ks : List (Str × Nd)} {i : Nat} {n : Str} {t : Nd}, (ks.map (·.1)).Nodup → ks[i]? = some (n, t) → kidL ks n = some t
  | [], i, n, t, _, h => by simp at h
  | (k, u) :: r, 0, n, t, hn, h => by
    have e : (k, u) = (n, t) := Option.some.inj h
    cases e
    unfold kidL
    rw [if_pos rfl]
  | (k, u) :: r, i + 1, n, t, hn, h => by
    have hn' : (k :: r.map (·.1)).Nodup := hn
    obtain ⟨h1, h2⟩ := List.nodup_cons.mp hn'
    have hr : r[i]? = some (n, t) := h
    unfold kidL
    rw [if_neg (fun z => h1 (by rw [z]; exact List.mem_map.mpr ⟨(n, t), List.mem_of_getElem? hr, rfl⟩))]
    exact kidL_at h2 hr
theorem szs_drop {ks : List (Str × Nd)} : ∀ {i : Nat} {p : Str × Nd}, ks[i]? = some p → szs (ks.drop i) = sz p.2 + szs (ks.drop (i + 1)) := by
  induction ks with
  | nil =>
    intro i p h
    simp at h
  | cons q r ih =>
    intro i p h
    cases i with
    | zero =>
      have e : q = p := Option.some.inj h
      subst e
      obtain ⟨a, b⟩ := q
      rfl
    | succ i => exact ih (i := i) h
/-- the weight below a path -/
def cw (t : Nd) (p : List Str) : Nat := match sub t p with
  | some (.dir ks) => szs ks
  | _ => 0
theorem sz_cw {t u : Nd} {p : List Str} (h : sub t p = some u) : sz u = cw t p + 1 := by
  unfold cw
  rw [h]
  cases u with
  | fil i => rfl
  | lnk z => rfl
  | dir ks =>
    show 1 + szs ks = szs ks + 1
    omega
mutual
theorem nv_sz : ∀ (g : Nat) (t : Nd) (n : Nat) (t' : Nd) (m : Nat), nv g t n = some (t', m) → m = n + sz t'
  | 0, t, n, t', m, h => by cases h
  | g + 1, t, n, t', m, h => by
    rw [nv_succ] at h
    split at h
    · cases h
    · cases t with
      | fil i =>
        dsimp only at h
        split at h
        · cases h
          rfl
        · cases h
      | lnk z =>
        dsimp only at h
        split at h
        · cases h
          rfl
        · cases h
      | dir ks =>
        dsimp only at h
        split at h
        · cases e : nvs (nv g) (sortK ks) (n + 1) with
          | none =>
            rw [e] at h
            cases h
          | some q =>
            obtain ⟨r, m1⟩ := q
            rw [e] at h
            cases h
            have z := nvs_sz g _ _ _ _ e
            show m = n + (1 + szs r)
            omega
        · cases h
theorem nvs_sz : ∀ (g : Nat) (S : List (Str × Nd)) (n : Nat) (r : List (Str × Nd)) (m : Nat), nvs (nv g) S n = some (r, m) → m = n + szs r
  | g, [], n, r, m, h => by
    cases h
    rfl
  | g, p :: S, n, r, m, h => by
    rw [nvs_cons] at h
    cases e : nv g p.2 n with
    | none =>
      rw [e] at h
      cases h
    | some q =>
      obtain ⟨t, m1⟩ := q
      rw [e] at h
      dsimp only at h
      cases e2 : nvs (nv g) S m1 with
      | none =>
        rw [e2] at h
        cases h
      | some q2 =>
        obtain ⟨r', m'⟩ := q2
        rw [e2] at h
        cases h
        have z1 := nv_sz g _ _ _ _ e
        have z2 := nvs_sz g _ _ _ _ e2
        show m = n + (sz t + szs r')
        omega
end
/-! ### the flat dict of a tree -/
def pk (p : List Str) : List Key := p.map Sum.inr
theorem pk_kV (p : List Str) : (pk p).map kV = p.map V.str := by
  unfold pk
  rw [List.map_map]
  rfl
theorem pk_inj : ∀ {p q : List Str}, pk p = pk q → p = q
  | [], [], _ => rfl
  | [], _ :: _, h => by cases h
  | _ :: _, [], h => by cases h
  | a :: p, b :: q, h => by
    have h' : (Sum.inr a : Key) :: pk p = Sum.inr b :: pk q := h
    injection h' with h1 h2
    rw [Sum.inr.inj h1, pk_inj h2]
def wsum (t : Nd) : List (Addr × List Str) → Nat
  | [] => 0
  | q :: r => cw t q.2 + wsum t r
theorem wsum_append (t : Nd) : ∀ a b : List (Addr × List Str), wsum t (a ++ b) = wsum t a + wsum t b
  | [], b => by
    show wsum t b = 0 + wsum t b
    omega
  | q :: a, b => by
    show cw t q.2 + wsum t (a ++ b) = cw t q.2 + wsum t a + wsum t b
    rw [wsum_append t a b]
    omega
/-- in the midst: HR the heap of the nodes, todo the paths whose names are still to come, now the path whose names come now with those that are left -/
structure Fl (HR : Hp) (t : Nd) (kvs : List (List Key × V)) (todo : List (Addr × List Str)) (now : List Str) (left : List (Str × Nd)) (M : Nat) : Prop where
  ok : ∀ k v, valV kvs k = some v → ∃ p u, k = pk p ∧ sub t p = some u ∧ NdAt HR v u
  td : ∀ q ∈ todo, ∃ v, valV kvs (pk q.2) = some v
  all : ∀ p u, sub t p = some u → (∃ v, valV kvs (pk p) = some v) ∨ (∃ q ∈ todo, ∃ r, r ≠ [] ∧ p = q.2 ++ r) ∨ ∃ e ∈ left, ∃ r, p = now ++ e.1 :: r
  nd : (kvs.map (·.1)).Nodup
  wt : kvs.length + wsum t todo + szs left ≤ 61
  ms : wsum t todo + todo.length + szs left ≤ M
theorem nd_put {kvs : List (List Key × V)} {k : List Key} (v : V) (hn : (kvs.map (·.1)).Nodup) : ((putK kvs k v).map (·.1)).Nodup := by
  cases e : valV kvs k with
  | none => exact nd_putK v hn e
  | some w =>
    have z : (putK kvs k v).map (·.1) = kvs.map (·.1) := by
      unfold putK
      split
      · rw [List.map_map]
        refine List.map_congr_left fun x _ => ?_
        show (if x.1 = k then (x.1, v) else x).1 = x.1
        split <;> rfl
      · rename_i c
        exfalso
        apply c
        unfold valV at e
        cases e2 : kvs.find? (fun q => decide (q.1 = k)) with
        | none =>
          rw [e2] at e
          cases e
        | some q => exact List.any_eq_true.mpr ⟨q, List.mem_of_find?_eq_some e2, (by have z := List.find?_some e2; exact z)⟩
    rw [z]
    exact hn
theorem Fl.start {HR : Hp} {t : Nd} {v : V} {b : Addr} (h : NdAt HR v t) (hz : sz t ≤ 61) : Fl HR t [([], v)] [(b, [])] [] [] (sz t) where
  ok := fun k w e => by
    by_cases c : ([] : List Key) = k
    · rw [valV_pos c] at e
      exact ⟨[], t, c.symm, rfl, Option.some.inj e ▸ h⟩
    · rw [valV_neg c] at e
      cases e
  td := fun q hq => by
    rw [List.mem_singleton] at hq
    subst hq
    exact ⟨v, valV_pos rfl⟩
  all := fun p u e => by
    cases p with
    | nil => exact .inl ⟨v, valV_pos rfl⟩
    | cons n r => exact .inr (.inl ⟨(b, []), List.mem_singleton.mpr rfl, n :: r, by simp, rfl⟩)
  nd := by simp
  wt := by
    have e : sz t = cw t [] + 1 := sz_cw rfl
    show 1 + (cw t [] + 0) + 0 ≤ 61
    omega
  ms := by
    have e : sz t = cw t [] + 1 := sz_cw rfl
    show cw t [] + 0 + 1 + 0 ≤ sz t
    omega
theorem Fl.pop {HR : Hp} {t u : Nd} {kvs : List (List Key × V)} {r : List (Addr × List Str)} {q : Addr × List Str} {now : List Str} {M : Nat} (h : Fl HR t kvs (r ++ [q]) now [] M) (hu : sub t q.2 = some u) (ks : List (Str × Nd)) (hk : u = .dir ks ∨ (ks = [] ∧ ∀ ks, u ≠ .dir ks)) : Fl HR t kvs r q.2 ks (M - 1) ∧ 0 < M where
  left := {
    ok := h.ok
    td := fun p hp => h.td p (List.mem_append_left _ hp)
    all := fun p w e => by
      rcases h.all p w e with c | ⟨q1, h1, r1, n1, e1⟩ | ⟨x, hx, _⟩
      · exact .inl c
      · rcases List.mem_append.mp h1 with h2 | h2
        · exact .inr (.inl ⟨q1, h2, r1, n1, e1⟩)
        · rw [List.mem_singleton] at h2
          subst h2
          cases r1 with
          | nil => exact absurd rfl n1
          | cons n r1 =>
            rw [e1, sub_append, hu] at e
            have e2 : (match kid u n with | some v => sub v r1 | none => none) = some w := e
            rcases hk with hk | ⟨_, hk⟩
            · subst hk
              have e3 : (match kidL ks n with | some v => sub v r1 | none => none) = some w := e2
              cases ek : kidL ks n with
              | none =>
                rw [ek] at e3
                cases e3
              | some v =>
                obtain ⟨i, hi⟩ := kidL_mem ek
                exact .inr (.inr ⟨(n, v), List.mem_of_getElem? hi, r1, e1⟩)
            · exfalso
              cases u with
              | fil i => cases e2
              | lnk z => cases e2
              | dir ks' => exact hk ks' rfl
      · cases hx
    nd := h.nd
    wt := by
      have z := h.wt
      rw [wsum_append] at z
      have z2 : wsum t [q] = cw t q.2 + 0 := rfl
      have z3 : szs ([] : List (Str × Nd)) = 0 := rfl
      have e := sz_cw hu
      rcases hk with hk | ⟨hk, _⟩
      · subst hk
        have e2 : sz (.dir ks) = 1 + szs ks := rfl
        omega
      · subst hk
        omega
    ms := by
      have z := h.ms
      rw [wsum_append, List.length_append] at z
      have z2 : wsum t [q] = cw t q.2 + 0 := rfl
      have z3 : szs ([] : List (Str × Nd)) = 0 := rfl
      have z4 : [q].length = 1 := rfl
      have e := sz_cw hu
      rcases hk with hk | ⟨hk, _⟩
      · subst hk
        have e2 : sz (.dir ks) = 1 + szs ks := rfl
        omega
      · subst hk
        omega }
  right := by
    have z := h.ms
    rw [List.length_append] at z
    have z4 : [q].length = 1 := rfl
    omega
theorem Fl.step {HR : Hp} {t : Nd} {kvs : List (List Key × V)} {todo : List (Addr × List Str)} {now : List Str} {e : Str × Nd} {left : List (Str × Nd)} {M : Nat} (h : Fl HR t kvs todo now (e :: left) M) {v : V} (b : Addr) (hv : NdAt HR v e.2) (hu : sub t (now ++ [e.1]) = some e.2) :
    Fl HR t (putK kvs (pk (now ++ [e.1])) v) (todo ++ [(b, now ++ [e.1])]) now left M where
  ok := fun k w hw => by
    rw [valV_put] at hw
    split at hw
    · rename_i c
      exact ⟨_, _, c, hu, Option.some.inj hw ▸ hv⟩
    · exact h.ok k w hw
  td := fun q hq => by
    rw [valV_put]
    rcases List.mem_append.mp hq with h1 | h1
    · obtain ⟨w, hw⟩ := h.td q h1
      split
      · exact ⟨v, rfl⟩
      · exact ⟨w, hw⟩
    · rw [List.mem_singleton] at h1
      subst h1
      rw [if_pos rfl]
      exact ⟨v, rfl⟩
  all := fun p u e0 => by
    rcases h.all p u e0 with ⟨w, c⟩ | ⟨q1, h1, r1, n1, e1⟩ | ⟨x, hx, r, er⟩
    · refine .inl ?_
      rw [valV_put]
      split
      · exact ⟨v, rfl⟩
      · exact ⟨w, c⟩
    · exact .inr (.inl ⟨q1, List.mem_append_left _ h1, r1, n1, e1⟩)
    · rcases List.mem_cons.mp hx with c | c
      · subst c
        cases r with
        | nil =>
          refine .inl ?_
          rw [valV_put, er, if_pos rfl]
          exact ⟨v, rfl⟩
        | cons n r =>
          refine .inr (.inl ⟨(b, now ++ [x.1]), List.mem_append_right _ (List.mem_singleton.mpr rfl), n :: r, by simp, ?_⟩)
          rw [er]
          simp
      · exact .inr (.inr ⟨x, c, r, er⟩)
  nd := nd_put v h.nd
  wt := by
    have z := h.wt
    have z1 := DSub.putK_len kvs (pk (now ++ [e.1])) v
    rw [wsum_append]
    have z2 : wsum t [(b, now ++ [e.1])] = cw t (now ++ [e.1]) + 0 := rfl
    have z3 : szs (e :: left) = sz e.2 + szs left := by
      obtain ⟨a, b⟩ := e
      rfl
    have z4 := sz_cw hu
    omega
  ms := by
    have z := h.ms
    rw [wsum_append, List.length_append]
    have z2 : wsum t [(b, now ++ [e.1])] = cw t (now ++ [e.1]) + 0 := rfl
    have z5 : [(b, now ++ [e.1])].length = 1 := rfl
    have z3 : szs (e :: left) = sz e.2 + szs left := by
      obtain ⟨a, b⟩ := e
      rfl
    have z4 := sz_cw hu
    omega
/-- a tree's object: its nodes by their paths -/
structure FlatD (HR : Hp) (t : Nd) (kvs : List (List Key × V)) : Prop where
  ok : ∀ k v, valV kvs k = some v → ∃ p u, k = pk p ∧ sub t p = some u ∧ NdAt HR v u
  all : ∀ p u, sub t p = some u → ∃ v, valV kvs (pk p) = some v
  nd : (kvs.map (·.1)).Nodup
  ln : kvs.length ≤ 61
theorem Fl.flat {HR : Hp} {t : Nd} {kvs : List (List Key × V)} {now : List Str} {M : Nat} (h : Fl HR t kvs [] now [] M) : FlatD HR t kvs where
  ok := h.ok
  all := fun p u e => by
    rcases h.all p u e with c | ⟨q1, h1, _⟩ | ⟨x, hx, _⟩
    · exact c
    · cases h1
    · cases hx
  nd := h.nd
  ln := by
    have := h.wt
    omega
theorem FlatD.get {HR : Hp} {t u : Nd} {kvs : List (List Key × V)} {p : List Str} (h : FlatD HR t kvs) (e : sub t p = some u) : ∃ v, valV kvs (pk p) = some v ∧ NdAt HR v u := by
  obtain ⟨v, hv⟩ := h.all p u e
  obtain ⟨p', u', ep, eu, hn⟩ := h.ok _ v hv
  cases pk_inj ep
  rw [e] at eu
  cases eu
  exact ⟨v, hv, hn⟩
theorem FlatD.no {HR : Hp} {t : Nd} {kvs : List (List Key × V)} {p : List Str} (h : FlatD HR t kvs) (e : sub t p = none) : valV kvs (pk p) = none := by
  cases hv : valV kvs (pk p) with
  | none => rfl
  | some v =>
    obtain ⟨p', u', ep, eu, hn⟩ := h.ok _ v hv
    cases pk_inj ep
    rw [e] at eu
    cases eu
theorem FlatD.mono {H H' : Hp} {t : Nd} {kvs : List (List Key × V)} (h : FlatD H t kvs) (k : DKeep H H') : FlatD H' t kvs := ⟨fun x v e => let ⟨p, u, a, b, c⟩ := h.ok x v e; ⟨p, u, a, b, c.mono k⟩, h.all, h.nd, h.ln⟩
end Tx
set_option Elab.async false
set_option linter.all false
set_option maxRecDepth 100000
set_option maxHeartbeats 8000000
namespace Tx
open PySem PySem.Spec PyProof.Rows L2 Cm
abbrev sInit : Stmt := inClass sTree 0
abbrev nI : List Str := ["self", "top", "todo", "at", "name"]
theorem scInit : FnScope nI ["self", "top"] (defScope sInit) := ⟨rfl, rfl, rfl, by decide +kernel, rfl, by decide +kernel, by decide +kernel⟩
def tI (i : Nat) : Stmt := (defBody sInit).getD i (.Pass ⟨0, 0, 0, 0⟩)
theorem bodyInit : defBody sInit = [tI 0, tI 1, tI 2, tI 3] := rfl
def whB (s : Stmt) (i : Nat) : Stmt := match s with | .While _ b _ _ => b.getD i (.Pass ⟨0, 0, 0, 0⟩) | _ => .Pass ⟨0, 0, 0, 0⟩
def ifB (s : Stmt) (i : Nat) : Stmt := match s with | .If _ b _ _ => b.getD i (.Pass ⟨0, 0, 0, 0⟩) | _ => .Pass ⟨0, 0, 0, 0⟩
def foB (s : Stmt) (i : Nat) : Stmt := match s with | .For _ _ b _ _ => b.getD i (.Pass ⟨0, 0, 0, 0⟩) | _ => .Pass ⟨0, 0, 0, 0⟩
def tIf : Stmt := whB (tI 3) 1
def tFo : Stmt := ifB tIf 0
/-- the class Tree -/
structure Tr (K : PySem.W.Frag) (mg : Str → Option Value) (C : Addr) : Prop where
  cl : Cls K C
  nN : NoAttr K C "nodes"
  mgC : mg "Tree" = some (.ref C)
def fl (N : Addr) : List (Str × V) := putF "nodes" (.ref N) []
theorem fl_nodes (N : Addr) : (fl N).lookup ("nodes" : Str) = some (.ref N) := by
  unfold fl
  rw [lookup_putF, if_pos rfl]
theorem fl_no (N : Addr) {m : Str} (h : ¬ m = "nodes") : (fl N).lookup m = none := by
  unfold fl
  rw [lookup_putF, if_neg h]
  rfl
/-- t + (y,) -/
theorem cat1 {K : PySem.W.Frag} {a p : Addr} {xs : List V} {y : V} {H : Hp} {Q : VK} (ha : H a = some (.tup xs)) (hl : xs.length ≤ 100) (hp : H p = none) (q : ∀ b H2, Same H H2 → H2 b = some (.tup (xs ++ [y])) → Q (.ref b) H2) :
    rCatA K (.ref a) (.ref p) (upd H p (.tup [y])) Q := by
  have sm : Same H (upd H p (.tup [y])) := same_new hp
  refine ⟨a, p, xs, [y], rfl, rfl, SqT.of (sm _ _ ha), SqT.of upd_same, Nat.le_of_lt (small1000 (by show xs.length + 1 ≤ 1000; omega)), fun e => q p _ sm (by rw [e]; exact upd_same), fun _ e => (nomatch e), fun _ _ p2 hp2 => q p2 _ (fun b o e => ?_) upd_same⟩
  rw [upd_ne (ne_of_none (sm _ _ e) hp2)]
  exact sm _ _ e
theorem szs_mem : ∀ {ks : List (Str × Nd)} {i : Nat} {p : Str × Nd}, ks[i]? = some p → sz p.2 ≤ szs ks
  | [], i, p, h => by simp at h
  | (k, u) :: r, 0, p, h => by
    have e : (k, u) = p := Option.some.inj h
    subst e
    show sz u ≤ sz u + szs r
    omega
  | (k, u) :: r, i + 1, p, h => by
    have z := szs_mem (ks := r) (i := i) h
    show sz p.2 ≤ sz u + szs r
    omega
theorem sub_len : ∀ {p : List Str} {t u : Nd}, sub t p = some u → p.length + sz u ≤ sz t
  | [], t, u, h => by
    cases h
    show 0 + sz t ≤ sz t
    omega
  | n :: p, t, u, h => by
    have h' : (match kid t n with | some u => sub u p | none => none) = some u := h
    cases e : kid t n with
    | none =>
      rw [e] at h'
      cases h'
    | some v =>
      rw [e] at h'
      have ih := sub_len (p := p) h'
      cases t with
      | fil i => cases e
      | lnk z => cases e
      | dir ks =>
        obtain ⟨i, hi⟩ := kidL_mem (show kidL ks n = some v from e)
        have z := szs_mem hi
        have z2 : sz (.dir ks) = 1 + szs ks := rfl
        show p.length + 1 + sz u ≤ sz (.dir ks)
        dsimp only at z
        omega
/-- the heap in __init__'s loops: H at the entry, HR the new nodes -/
structure LS (H HR : Hp) (CT x N L dx : Addr) (t : Nd) (H' : Hp) (kvs : List (List Key × V)) (todo : List (Addr × List Str)) : Prop where
  ox : H' x = some (.ins CT dx (fl N))
  on : H' N = some (.dT kvs)
  ol : H' L = some (.lst (todo.map fun q => V.ref q.1))
  ot : ∀ q ∈ todo, H' q.1 = some (.tup (q.2.map V.str))
  kp : But x H H'
/-- what never changes -/
structure LC (H HR : Hp) (x N L : Addr) (t : Nd) : Prop where
  hx : ∃ o, H x = some o
  hN : H N = none
  hL : H L = none
  hR : ∀ b o, HR b = some o → H b = none
  nR : ∀ kv, HR N ≠ some (.dK kv)
  lR : ∀ kv, HR L ≠ some (.dK kv)
  sz : sz t ≤ 61
section
variable {P : Program} {w : World} {K : PySem.W.Frag} {mg : Str → Option Value} {base : Heap} {f C CT : Addr} {cdv : Value} {A : Around} {outer : List Env} {s : Shared} {H0 : Hp} {E : XK}
abbrev XI (P : Program) (w : World) (K : PySem.W.Frag) (mg : Str → Option Value) (base : Heap) (f : Addr) (cdv : Value) (A : Around) (outer : List Env) (s : Shared) (H0 : Hp) (E : XK) : Cx := cxOf (L2.CX P w) P w K mg base nI "Tree.__init__" (defScope sInit) f cdv A outer s H0 E
def sI (x L : Addr) (v : V) (a n : Option V) : L2.St := [some (.ref x), some v, some (.ref L), a, n]
/-- for name in self.nodes[at]: both lines -/
theorem hFB (T : Tr K mg CT) (hr : Room 1 (XI P w K mg base f cdv A outer s H0 E).A) :
    ∃ tb, PSs (XI P w K mg base f cdv A outer s H0 E) [foB tFo 0, foB tFo 1] tb ∧ ∀ (D : Ends) {H HR H1 : Hp} {x N L dx d a : Addr} {v : V} {t : Nd} {now : List Str} {od : Obj} {kvd : List (Key × V)} {u : V} {e : Str × Nd} {left : List (Str × Nd)} {M : Nat} {kvs : List (List Key × V)} {todo : List (Addr × List Str)}, LC H HR x N L t → M ≤ 61 →
      valV kvd (Sum.inr e.1 : Key) = some u → NdAt HR u e.2 → sub t (now ++ [e.1]) = some e.2 → LS H HR CT x N L dx t H1 kvs todo → Fl HR t kvs todo now (e :: left) M → H1 d = some (.frz od (.dK kvd)) → H1 a = some (.tup (now.map V.str)) → valV kvs (pk now) = some (.ref d) →
      (∀ b kv, b ≠ d → HR b = some (.dK kv) → H1 b = some (.dK kv)) → (∀ H' kvs todo, LS H HR CT x N L dx t H' kvs todo → Fl HR t kvs todo now left M → H' d = some (.frz od (.dK kvd)) → H' a = some (.tup (now.map V.str)) → valV kvs (pk now) = some (.ref d) → (∀ b kv, b ≠ d → HR b = some (.dK kv) → H' b = some (.dK kv)) → D.nx (sI x L v (some (.ref a)) (some (.str e.1))) H') →
      tb D (sI x L v (some (.ref a)) (some (.str e.1))) H1 := by
  have hu1 : (XI P w K mg base f cdv A outer s H0 E).A.units + 1 < cLine := by
    have := hr.units
    omega
  refine ⟨_, pss_cons (ps_dput hu1 (pe_fld (pv 0) rfl) (pe_op op_catA (pv 3) (pe_tup (pa_cons (pv 4) pa_nil))) (pe_dget hu1 (pe_dget hu1 (pe_fld (pv 0) rfl) (pv 3) (fun _ _ => rfl)) (pv 4) (fun _ _ => rfl)) rfl)
    (pss_one (ps_expr (pe_bm PySem.F.plainAttrs_list PySem.F.slot_list_append PySem.F.type_list_append mt_append (pv 2) (pa_cons (pe_op op_catA (pv 3) (pe_tup (pa_cons (pv 4) pa_nil))) pa_nil)))), ?_⟩
  intro D H HR H1 x N L dx d a v t now od kvd u e left M kvs todo Lc hM hg hv hu S F hd ha hn hk q
  have hnl : now.length ≤ 61 := by
    have z1 := sub_len hu
    rw [List.length_append] at z1
    have := Lc.sz
    omega
  have g1 : DGet H1 N (.ref a) (some (.ref d)) := by
    have z := DGet.t (k := pk now) S.on (by rw [pk_kV]; exact ha)
    rw [hn] at z
    exact z
  have g2 : DGet H1 d (.str e.1) (some u) := by
    refine .inl ⟨kvd, Sum.inr e.1, .inr ⟨od, hd⟩, rfl, hg.symm⟩
  refine ⟨_, rfl, x, CT, dx, fl N, .ref N, rfl, S.ox, T.cl, T.nN, fl_nodes N, _, rfl, N, .ref d, rfl, g1, _, rfl, d, u, rfl, g2, ?_⟩
  refine ⟨_, rfl, x, CT, dx, fl N, .ref N, rfl, S.ox, T.cl, T.nN, fl_nodes N, _, rfl, _, rfl, (by show 1 ≤ sizeLine; decide +kernel), fun p hp => ?_⟩
  refine cat1 ha (by rw [List.length_map]; omega) hp fun b H2 s2 hb => ?_
  have hb' : H2 b = some (.tup ((pk (now ++ [e.1])).map kV)) := by
    rw [pk_kV, List.map_append]
    exact hb
  have hkl : kvs.length ≤ 61 := by
    have := F.wt
    omega
  refine ⟨N, _, rfl, DPut.t (s2 _ _ S.on) hb' (small1000 (by omega)), ?_⟩
  have nNL : N ≠ L := ne_of S.on S.ol (by intro z; cases z)
  have nNx : N ≠ x := ne_of S.on S.ox (by intro z; cases z)
  have nLx : L ≠ x := ne_of S.ol S.ox (by intro z; cases z)
  have naN : a ≠ N := ne_of ha S.on (by intro z; cases z)
  have naL : a ≠ L := ne_of ha S.ol (by intro z; cases z)
  have ndN : d ≠ N := ne_of hd S.on (by intro z; cases z)
  have ndL : d ≠ L := ne_of hd S.ol (by intro z; cases z)
  obtain ⟨H3, e3⟩ : ∃ H3, H3 = upd H2 N (.dT (putK kvs (pk (now ++ [e.1])) u)) := ⟨_, rfl⟩
  rw [← e3]
  have st3 : ∀ b o, H1 b = some o → b ≠ N → H3 b = some o := fun b o h n => by
    rw [e3, upd_ne n]
    exact s2 _ _ h
  have hL3 : H3 L = some (.lst (todo.map fun q => V.ref q.1)) := st3 _ _ S.ol nNL.symm
  have hN3 : H3 N = some (.dT (putK kvs (pk (now ++ [e.1])) u)) := by rw [e3]; exact upd_same
  have htl : todo.length ≤ 200 := by
    have := F.ms
    omega
  refine ⟨_, rfl, .inl ⟨rfl, _, SqL.of hL3⟩, _, rfl, _, rfl, (by show 1 ≤ sizeLine; decide +kernel), fun p3 hp3 => ?_⟩
  refine cat1 (st3 _ _ ha naN) (by rw [List.length_map]; omega) hp3 fun b2 H4 s4 hb2 => ?_
  refine ⟨L, _, _, rfl, rfl, s4 _ _ hL3, small1000 (by rw [List.length_map]; omega), ?_⟩
  obtain ⟨H5, e5⟩ : ∃ H5, H5 = upd H4 L (.lst ((todo.map fun q => V.ref q.1) ++ [V.ref b2])) := ⟨_, rfl⟩
  have st5 : ∀ b o, H1 b = some o → b ≠ N → b ≠ L → H5 b = some o := fun b o h n n2 => by
    rw [e5, upd_ne n2]
    exact s4 _ _ (st3 b o h n)
  rw [← e5]
  have b2L : b2 ≠ L := ne_of hb2 (s4 _ _ hL3) (by intro z; cases z)
  refine q H5 _ (todo ++ [(b2, now ++ [e.1])]) ⟨st5 _ _ S.ox nNx.symm nLx.symm, ?_, ?_, ?_, ?_⟩ (F.step b2 hv hu) (st5 _ _ hd ndN ndL) (st5 _ _ ha naN naL) ?_ ?_
  · rw [e5, upd_ne nNL]
    exact s4 _ _ hN3
  · rw [e5, upd_same, List.map_append]
    rfl
  · intro q0 hq0
    rcases List.mem_append.mp hq0 with h1 | h1
    · exact st5 _ _ (S.ot q0 h1) (ne_of (S.ot q0 h1) S.on (by intro z; cases z)) (ne_of (S.ot q0 h1) S.ol (by intro z; cases z))
    · rw [List.mem_singleton] at h1
      subst h1
      rw [e5]
      show upd H4 L _ b2 = some (.tup ((now ++ [e.1]).map V.str))
      rw [upd_ne b2L, hb2, List.map_append]
      rfl
  · intro b o nb hb0
    have nN : b ≠ N := fun z => by
      rw [z, Lc.hN] at hb0
      cases hb0
    have nL : b ≠ L := fun z => by
      rw [z, Lc.hL] at hb0
      cases hb0
    exact st5 _ _ (S.kp b o nb hb0) nN nL
  · rw [valV_put, if_neg, hn]
    intro z
    have z2 := pk_inj z
    have z3 := congrArg List.length z2
    rw [List.length_append] at z3
    have z4 : [e.1].length = 1 := rfl
    omega
  · intro b kv nb hb0
    exact st5 _ _ (hk b kv nb hb0) (fun z => Lc.nR kv (z ▸ hb0)) (fun z => Lc.lR kv (z ▸ hb0))
/-- the for loop -/
theorem hFo (T : Tr K mg CT) (hr : Room 1 (XI P w K mg base f cdv A outer s H0 E).A) :
    ∃ tf, PS (XI P w K mg base f cdv A outer s H0 E) tFo tf ∧ ∀ (D : Ends) {H HR H1 : Hp} {x N L dx d a : Addr} {v : V} {n : Option V} {t : Nd} {now : List Str} {ks : List (Str × Nd)} {M : Nat} {kvs : List (List Key × V)} {todo : List (Addr × List Str)}, LC H HR x N L t → M ≤ 61 →
      NdAt HR (.ref d) (.dir ks) → sub t now = some (.dir ks) → LS H HR CT x N L dx t H1 kvs todo → Fl HR t kvs todo now ks M → H1 a = some (.tup (now.map V.str)) → valV kvs (pk now) = some (.ref d) → DKeep HR H1 →
      (∀ n' H' kvs todo, LS H HR CT x N L dx t H' kvs todo → Fl HR t kvs todo now [] M → DKeep HR H' → D.nx (sI x L v (some (.ref a)) n') H') →
      tf D (sI x L v (some (.ref a)) n) H1 := by
  have hu1 : (XI P w K mg base f cdv A outer s H0 E).A.units + 1 < cLine := by
    have := hr.units
    omega
  obtain ⟨tb, hb, rb⟩ := hFB (P := P) (w := w) (base := base) (f := f) (cdv := cdv) (A := A) (outer := outer) (s := s) (H0 := H0) (E := E) T hr
  refine ⟨_, ps_lock (ps_for (passes_of rfl) rfl (pi_keys (pe_dget hu1 (pe_fld (pv 0) rfl) (pv 3) (fun _ _ => rfl))) (pg_name (i := 4) scInit.nd rfl (Or.inl rfl)) hb), ?_⟩
  intro D H HR H1 x N L dx d a v n t now ks M kvs todo Lc hM hnd hsub S F ha hn hk q
  cases hnd with
  | @dir _ kvd _ h hkk hnn hl hz hv =>
  have h1 : H1 d = some (.dK kvd) := hk _ _ h
  refine ⟨d, .dK kvd, h1, True.intro, fun od => ?_⟩
  have nxd : x ≠ d := ne_of S.ox h1 (by intro z; cases z)
  have nNd : N ≠ d := ne_of S.on h1 (by intro z; cases z)
  have nLd : L ≠ d := ne_of S.ol h1 (by intro z; cases z)
  have nad : a ≠ d := ne_of ha h1 (by intro z; cases z)
  have hHd : H d = none := Lc.hR _ _ h
  obtain ⟨H2, e2⟩ : ∃ H2, H2 = upd H1 d (.frz od (.dK kvd)) := ⟨_, rfl⟩
  have st2 : ∀ b o, H1 b = some o → b ≠ d → H2 b = some o := fun b o hb n => by
    rw [e2, upd_ne n]
    exact hb
  rw [← e2]
  have S2 : LS H HR CT x N L dx t H2 kvs todo := ⟨st2 _ _ S.ox nxd, st2 _ _ S.on nNd, st2 _ _ S.ol nLd, fun q0 h0 => st2 _ _ (S.ot q0 h0) (ne_of (S.ot q0 h0) h1 (by intro z; cases z)), fun b o nb hb0 => st2 _ _ (S.kp b o nb hb0) (fun z => by
    rw [z, hHd] at hb0
    cases hb0)⟩
  have ha2 := st2 _ _ ha nad
  have hd2 : H2 d = some (.frz od (.dK kvd)) := by rw [e2]; exact upd_same
  have hkn : (kvd.map (·.1)).Nodup := by
    have z : kvd.map (·.1) = (ks.map (·.1)).map (Sum.inr : Str → Key) := by
      rw [List.map_map]
      exact hkk
    rw [z]
    unfold List.Nodup at hnn ⊢
    rw [List.pairwise_map]
    exact hnn.imp fun h e => h (Sum.inr.inj e)
  have hlen : kvd.length = ks.length := by
    have e := congrArg List.length hkk
    rw [List.length_map, List.length_map] at e
    exact e
  have g1 : DGet H2 N (.ref a) (some (.ref d)) := by
    have z := DGet.t (k := pk now) S2.on (by rw [pk_kV]; exact ha2)
    rw [hn] at z
    exact z
  refine ⟨_, rfl, x, CT, dx, fl N, .ref N, rfl, S2.ox, T.cl, T.nN, fl_nodes N, _, rfl, N, .ref d, rfl, g1, d, od, rfl, .inl ⟨kvd, hd2, for_it walk_keys (fun i σ H3 => ∃ n' kvs' todo', σ = sI x L v (some (.ref a)) n' ∧ LS H HR CT x N L dx t H3 kvs' todo' ∧ Fl HR t kvs' todo' now (ks.drop i) M ∧ H3 d = some (.frz od (.dK kvd)) ∧ H3 a = some (.tup (now.map V.str)) ∧ valV kvs' (pk now) = some (.ref d) ∧ ∀ b kv, b ≠ d → HR b = some (.dK kv) → H3 b = some (.dK kv)) ?_ ?_ ?_ ?_⟩⟩
  · exact ⟨n, kvs, todo, rfl, S2, F, hd2, ha2, hn, fun b kv nb hb0 => st2 _ _ (hk _ _ hb0) nb⟩
  · rintro i σ H3 _ ⟨_, _, _, _, _, _, h3, _⟩
    exact h3
  · rintro i y σ H3 H4 hi ⟨n', kvs', todo', rfl, S3, F3, hd3, ha3, hn3, hk3⟩ ⟨rfl, k, u, hku, rfl⟩
    have hi' : i < ks.length := by omega
    obtain ⟨e, he⟩ : ∃ e, ks[i]? = some e := ⟨_, List.getElem?_eq_getElem hi'⟩
    have ek : k = Sum.inr e.1 := by
      have e1 : (kvd.map (·.1))[i]? = some k := by rw [List.getElem?_map, hku]; rfl
      rw [hkk, List.getElem?_map, he] at e1
      exact (Option.some.inj e1).symm
    subst ek
    have ed : ks.drop i = e :: ks.drop (i + 1) := by
      rw [List.drop_eq_getElem_cons hi']
      congr 1
      rw [List.getElem?_eq_getElem hi'] at he
      exact Option.some.inj he
    rw [ed] at F3
    refine rb _ Lc hM (valV_at hkn hku) (hv i _ e hku he) ?_ S3 F3 hd3 ha3 hn3 hk3 fun H5 kvs5 todo5 S5 F5 hd5 ha5 hn5 hk5 => ⟨_, kvs5, todo5, rfl, S5, F5, hd5, ha5, hn5, hk5⟩
    rw [sub_snoc hsub]
    exact kidL_at (i := i) hnn he
  · rintro σ H3 ⟨n', kvs', todo', rfl, S3, F3, hd3, ha3, hn3, hk3⟩
    refine ⟨hd3, ?_⟩
    have ed : ks.drop kvd.length = [] := List.drop_eq_nil_of_le (by omega)
    rw [ed] at F3
    have st4 : ∀ b o, H3 b = some o → b ≠ d → upd H3 d (.dK kvd) b = some o := fun b o hb n => by
      rw [upd_ne n]
      exact hb
    refine q n' _ kvs' todo' ⟨st4 _ _ S3.ox nxd, st4 _ _ S3.on nNd, st4 _ _ S3.ol nLd, fun q0 h0 => st4 _ _ (S3.ot q0 h0) (ne_of (S3.ot q0 h0) hd3 (by intro z; cases z)), fun b o nb hb0 => st4 _ _ (S3.kp b o nb hb0) (fun z => by
      rw [z, hHd] at hb0
      cases hb0)⟩ F3 fun b kv hb0 => ?_
    by_cases c : b = d
    · subst c
      rw [h] at hb0
      cases hb0
      exact upd_same
    · exact st4 _ _ (hk3 b kv c hb0) c
end
end Tx
set_option Elab.async false
set_option linter.all false
set_option maxRecDepth 100000
set_option maxHeartbeats 8000000
namespace Tx
open PySem PySem.Spec PyProof.Rows L2 Cm
section
variable {P : Program} {w : World} {K : PySem.W.Frag} {mg : Str → Option Value} {base : Heap} {f C CT : Addr} {fd : FuncData} {cdv : Value} {A : Around} {outer : List Env} {s : Shared} {H0 : Hp} {E : XK}
theorem hWh (B : Bi mg) (T : Tr K mg CT) (hr : Room 1 (XI P w K mg base f cdv A outer s H0 E).A) :
    ∃ tw, PS (XI P w K mg base f cdv A outer s H0 E) (tI 3) tw ∧ ∀ (D : Ends) {H HR H1 : Hp} {x N L dx : Addr} {v : V} {a n : Option V} {t : Nd} {now : List Str} {M : Nat} {kvs : List (List Key × V)} {todo : List (Addr × List Str)}, LC H HR x N L t → M ≤ 61 →
      LS H HR CT x N L dx t H1 kvs todo → Fl HR t kvs todo now [] M → DKeep HR H1 →
      (∀ σ H' kvs, LS H HR CT x N L dx t H' kvs [] → FlatD HR t kvs → DKeep HR H' → D.nx σ H') →
      tw D (sI x L v a n) H1 := by
  have hu1 : (XI P w K mg base f cdv A outer s H0 E).A.units + 1 < cLine := by
    have := hr.units
    omega
  obtain ⟨tf, hf, rf⟩ := hFo (P := P) (w := w) (base := base) (f := f) (cdv := cdv) (A := A) (outer := outer) (s := s) (H0 := H0) (E := E) T hr
  refine ⟨_, ps_while (passes_of rfl) (pt_truth (pv 2) (fun _ => rfl)) (pss_cons (ps_set (i := 3) scInit.nd rfl (Or.inl rfl) (pe_bm0 PySem.F.plainAttrs_list PySem.F.slot_list_pop PySem.F.type_list_pop mt_pop (pv 2)))
    (pss_one (ps_if (pt_val (pe_callB call_isi (by rfl) B.isin (by decide +kernel) (pa_cons (pe_dget hu1 (pe_fld (pv 0) rfl) (pv 3) (fun _ _ => rfl)) (pa_cons (pe_bltn (v := .ty "dict") (by rfl) B.dict (by decide +kernel) rfl) pa_nil)))) (pss_one hf) pss_nil))), ?_⟩
  intro D H HR H1 x N L dx v a n t now M kvs todo Lc hM S F hk q
  refine ⟨fun m σ H' => ∃ a n kvs todo now, σ = sI x L v a n ∧ LS H HR CT x N L dx t H' kvs todo ∧ Fl HR t kvs todo now [] m ∧ DKeep HR H' ∧ m ≤ 61, ⟨M, a, n, kvs, todo, now, rfl, S, F, hk, hM⟩, ?_⟩
  clear S F hk hM
  rintro m σ H2 ⟨a, n, kvs, todo, now, rfl, S, F, hk, hM⟩
  rcases List.eq_nil_or_concat todo with e | ⟨r, q0, e⟩
  · subst e
    exact ⟨_, rfl, false, .inl ⟨_, SqL.of S.ol, rfl⟩, iteF (q _ _ kvs S F.flat hk)⟩
  · rw [List.concat_eq_append] at e
    subst e
    have el : (r ++ [q0]).map (fun q => V.ref q.1) = r.map (fun q => V.ref q.1) ++ [V.ref q0.1] := by
      rw [List.map_append]
      rfl
    refine ⟨_, rfl, true, .inl ⟨_, SqL.of S.ol, by rw [el]; simp⟩, iteT ⟨fun σ' H' => ∃ m', m' < m ∧ ∃ a n kvs todo now, σ' = sI x L v a n ∧ LS H HR CT x N L dx t H' kvs todo ∧ Fl HR t kvs todo now [] m' ∧ DKeep HR H' ∧ m' ≤ 61, fun _ _ h => h, ?_⟩⟩
    have hL := S.ol
    rw [el] at hL
    refine ⟨_, rfl, .inl ⟨rfl, _, SqL.of S.ol⟩, L, _, .ref q0.1, rfl, rfl, hL, by simp, ?_⟩
    have ed : (r.map (fun q => V.ref q.1) ++ [V.ref q0.1]).dropLast = r.map (fun q => V.ref q.1) := by simp
    rw [ed]
    obtain ⟨H3, e3⟩ : ∃ H3, H3 = upd H2 L (.lst (r.map fun q => V.ref q.1)) := ⟨_, rfl⟩
    rw [← e3]
    have st3 : ∀ b o, H2 b = some o → b ≠ L → H3 b = some o := fun b o h n => by
      rw [e3, upd_ne n]
      exact h
    have ht0 := S.ot q0 (by simp)
    have S3 : LS H HR CT x N L dx t H3 kvs r := ⟨st3 _ _ S.ox (ne_of S.ox S.ol (by intro z; cases z)), st3 _ _ S.on (ne_of S.on S.ol (by intro z; cases z)), by rw [e3]; exact upd_same, fun q1 h1 => st3 _ _ (S.ot q1 (List.mem_append_left _ h1)) (ne_of (S.ot q1 (List.mem_append_left _ h1)) S.ol (by intro z; cases z)), fun b o nb hb0 => st3 _ _ (S.kp b o nb hb0) (fun z => by
      rw [z, Lc.hL] at hb0
      cases hb0)⟩
    have ht3 : H3 q0.1 = some (.tup (q0.2.map V.str)) := st3 _ _ ht0 (ne_of ht0 S.ol (by intro z; cases z))
    have hk3 : DKeep HR H3 := fun b kv hb0 => st3 _ _ (hk b kv hb0) (fun z => Lc.lR kv (z ▸ hb0))
    obtain ⟨v0, hv0⟩ := F.td q0 (by simp)
    obtain ⟨p', u, ep, hsub, hnd⟩ := F.ok _ v0 hv0
    cases pk_inj ep
    have g1 : DGet H3 N (.ref q0.1) (some v0) := by
      have z := DGet.t (k := pk q0.2) S3.on (by rw [pk_kV]; exact ht3)
      rw [hv0] at z
      exact z
    refine ⟨_, rfl, x, CT, dx, fl N, .ref N, rfl, S3.ox, T.cl, T.nN, fl_nodes N, _, rfl, N, v0, rfl, g1, ?_⟩
    cases u with
    | dir ks =>
      obtain ⟨F3, hm⟩ := F.pop hsub ks (.inl rfl)
      obtain ⟨d, rfl, kvd, hd⟩ : ∃ d, v0 = .ref d ∧ ∃ kvd, HR d = some (.dK kvd) := by
        cases hnd with
        | dir h _ _ _ _ _ => exact ⟨_, rfl, _, h⟩
      refine ⟨_, .ty "dict", _, _, true, rfl, .ty _, .base (.dK (hk3 _ _ hd)), kit_ty (by decide +kernel), _, rfl, iteT ?_⟩
      refine rf _ Lc (by omega) hnd hsub S3 F3 ht3 hv0 hk3 fun n' H4 kvs4 todo4 S4 F4 hk4 => ?_
      exact ⟨m - 1, by omega, some (.ref q0.1), n', kvs4, todo4, _, rfl, S4, F4, hk4, by omega⟩
    | fil i =>
      obtain ⟨F3, hm⟩ := F.pop hsub [] (.inr ⟨rfl, fun _ z => nomatch z⟩)
      obtain rfl : v0 = .int i := by
        cases hnd
        rfl
      refine ⟨_, .ty "dict", _, _, false, rfl, .ty _, .base (.int i), kit_ty (by decide +kernel), _, rfl, iteF ?_⟩
      exact ⟨m - 1, by omega, some (.ref q0.1), n, kvs, r, _, rfl, S3, F3, hk3, by omega⟩
    | lnk z =>
      obtain ⟨F3, hm⟩ := F.pop hsub [] (.inr ⟨rfl, fun _ z => nomatch z⟩)
      obtain rfl : v0 = .str z := by
        cases hnd
        rfl
      refine ⟨_, .ty "dict", _, _, false, rfl, .ty _, .base (.str z), kit_ty (by decide +kernel), _, rfl, iteF ?_⟩
      exact ⟨m - 1, by omega, some (.ref q0.1), n, kvs, r, _, rfl, S3, F3, hk3, by omega⟩
/-- Tree(top) -/
def spTree (K : PySem.W.Frag) (CT C : Addr) : Sp := fun vs H Q E => ∃ x dx v, vs = [.ref x, v] ∧ H x = some (.ins CT dx []) ∧
  ((∃ ks, NdAt H v (.dir ks) ∧ (∀ t' n, nv 9 (.dir ks) 0 = some (t', n) → ∀ H' N kvs, H' x = some (.ins CT dx (fl N)) → newIn H H' N = some (.dT kvs) → FlatD (newIn H H') t' kvs → But x H H' → Q .non H') ∧ (nv 9 (.dir ks) 0 = none → ∀ H', But x H H' → E (.ref C) none H')) ∨
  ∃ ty, TyX K H v ty ∧ PySem.W.kitOne K ty (.type "dict") = some false ∧ E (.ref C) none H)
theorem ok_init (F : Fun K "__init__" "Tree.__init__" sInit f fd) (B : Bi mg) (T : Tr K mg CT) (Nt : No K mg C) (NX : Cl P w K mg base (L2.CX P w) 12 "node_value" ["thing", "depth", "met"] (spNode C 9)) :
    FnOk P w K mg base (L2.CX P w) 13 f fd ["self", "top"] (spTree K CT C) := by
  refine F.okX scInit (fun vs H Q E h => ?_) (fun cdv A outer s H vs Q E hr h => ?_)
  · obtain ⟨x, dx, v, rfl, _⟩ := h
    rfl
  · obtain ⟨x, dx, v, rfl, hx, h⟩ := h
    rw [bodyInit]
    have hr' : Room 12 (XI P w K mg base f cdv A outer s H E).A := hr
    have hu1 : (XI P w K mg base f cdv A outer s H E).A.units + 1 < cLine := by
      have := hr'.units
      omega
    obtain ⟨tw, hw, rw'⟩ := hWh (P := P) (w := w) (base := base) (f := f) (cdv := cdv) (A := A) (outer := outer) (s := s) (H0 := H) (E := E) B T (hr'.mono (by decide))
    refine ⟨_, pss_cons (ps_if (pt_not (pt_val (pe_callB call_isi (by rfl) B.isin (by decide +kernel) (pa_cons (pv 1) (pa_cons (pe_bltn (v := .ty "dict") (by rfl) B.dict (by decide +kernel) rfl) pa_nil))))) (pss_one (ps_raise rfl (takes_of rfl rfl rfl rfl) (pmk_own PySem.F.excBase_ValueError Nt.x Nt.g Nt.k (raises_own Nt.b Nt.t) (by rfl)))) pss_nil)
      (pss_cons (ps_fld (pv 0) (DcE.pe_dispT hu1 (pe_tup pa_nil) (pe_cl NX hr' (Nat.le_refl _) (by rfl) (passes_call (takes_of rfl rfl rfl rfl) (fun _ _ _ _ h => h)) (pa_cons (pv 1) (pa_cons pe_int (pa_cons (pe_lst pa_nil) pa_nil))))) rfl)
      (pss_cons (ps_set (i := 2) scInit.nd rfl (Or.inl rfl) (pe_lst (pa_cons (pe_tup pa_nil) pa_nil)))
      (pss_one hw))), ?_⟩
    rcases h with ⟨ks, hn, hQ, hE⟩ | ⟨ty, hty, hk, hE⟩
    · obtain ⟨d0, rfl, kv0, hd0⟩ : ∃ d, v = .ref d ∧ ∃ kvd, H d = some (.dK kvd) := by
        cases hn with
        | dir h _ _ _ _ _ => exact ⟨_, rfl, _, h⟩
      refine ⟨_, rfl, _, .ty "dict", _, _, true, rfl, .ty _, .base (.dK hd0), kit_ty (by decide +kernel), _, rfl, iteF ?_⟩
      intro p hp
      refine ⟨by show 0 ≤ sizeLine; decide, fun pt hpt => ?_⟩
      refine ⟨_, rfl, by show 0 ≤ sizeLine; decide, fun pm hpm => ?_⟩
      have s1 : Same H (upd H p (.dT [])) := same_new hp
      have s2 : Same (upd H p (.dT [])) (upd (upd H p (.dT [])) pt (.tup [])) := same_new hpt
      have s3 : Same (upd (upd H p (.dT [])) pt (.tup [])) (upd (upd (upd H p (.dT [])) pt (.tup [])) pm (.lst [])) := same_new hpm
      have hp2 := s2 _ _ (upd_same (H := H) (a := p) (o := .dT []))
      have hp3 := s3 _ _ hp2
      have ht3 := s3 _ _ (upd_same (H := upd H p (.dT [])) (a := pt) (o := .tup []))
      have hm3 : (upd (upd (upd H p (.dT [])) pt (.tup [])) pm (.lst [])) pm = some (.lst []) := upd_same
      obtain ⟨H3, e3⟩ : ∃ H3, H3 = upd (upd (upd H p (.dT [])) pt (.tup [])) pm (.lst []) := ⟨_, rfl⟩
      have s13 : Same H H3 := fun b o h => by
        rw [e3]
        exact s3 _ _ (s2 _ _ (s1 _ _ h))
      rw [← e3] at hp3 ht3 hm3 ⊢
      have pmp : p ≠ pm := ne_of hp3 hm3 (by intro z; cases z)
      have ptm : pt ≠ pm := ne_of ht3 hm3 (by intro z; cases z)
      have pmH : H pm = none := by
        cases e : H pm with
        | none => rfl
        | some o =>
          rw [s2 _ _ (s1 _ _ e)] at hpm
          cases hpm
      refine ⟨_, .dir ks, pm, [], rfl, hn.mono (DKeep.same s13), hm3, by decide, ?_, ?_⟩
      · intro t' n en v' ms' H4 hv' hm' hl' hb
        have kp4 : Same H H4 := fun b o h => hb b o (fun z => by
          rw [z, pmH] at h
          cases h) (s13 _ _ h)
        have hp4 : H4 p = some (.dT []) := hb _ _ pmp hp3
        refine ⟨hp4, pt, [], v', rfl, hb _ _ ptm ht3, ?_⟩
        have px : p ≠ x := (ne_of_none hx hp).symm
        refine ⟨_, rfl, x, CT, dx, [], rfl, by rw [upd_ne px.symm]; exact kp4 _ _ hx, T.cl, T.nN, (by show 0 < 1000; decide), ?_⟩
        obtain ⟨H6, e6⟩ : ∃ H6, H6 = upd (upd H4 p (.dT [([], v')])) x (.ins CT dx (fl p)) := ⟨_, rfl⟩
        have hx6 : H6 x = some (.ins CT dx (fl p)) := by rw [e6]; exact upd_same
        have hp6 : H6 p = some (.dT [([], v')]) := by
          rw [e6, upd_ne px]
          exact upd_same
        have st6 : ∀ b o, H4 b = some o → b ≠ p → b ≠ x → H6 b = some o := fun b o h n1 n2 => by
          rw [e6, upd_ne n2, upd_ne n1]
          exact h
        refine ⟨by show 0 ≤ sizeLine; decide, fun pt2 hpt2 => ⟨by show 1 ≤ sizeLine; decide, fun pL hpL => ?_⟩⟩
        have e6' : upd (upd H4 p (.dT [([], v')])) x (.ins CT dx (putF "nodes" (.ref p) [])) = H6 := e6.symm
        rw [e6'] at hpt2 hpL ⊢
        have s7 : Same H6 (upd H6 pt2 (.tup [])) := same_new hpt2
        have s8 : Same (upd H6 pt2 (.tup [])) (upd (upd H6 pt2 (.tup [])) pL (.lst [.ref pt2])) := same_new hpL
        have ht8 := s8 _ _ (upd_same (H := H6) (a := pt2) (o := .tup []))
        have hL8 : (upd (upd H6 pt2 (.tup [])) pL (.lst [.ref pt2])) pL = some (.lst [.ref pt2]) := upd_same
        have s68 : Same H6 (upd (upd H6 pt2 (.tup [])) pL (.lst [.ref pt2])) := fun b o h => s8 _ _ (s7 _ _ h)
        have pL6 : H6 pL = none := by
          cases e : H6 pL with
          | none => rfl
          | some o =>
            rw [s7 _ _ e] at hpL
            cases hpL
        have pLp : pL ≠ p := fun z => by
          rw [z, hp6] at pL6
          cases pL6
        have pLx : pL ≠ x := fun z => by
          rw [z, hx6] at pL6
          cases pL6
        have pL4 : H4 pL = none := by
          cases e : H4 pL with
          | none => rfl
          | some o =>
            rw [st6 _ _ e pLp pLx] at pL6
            cases pL6
        have pLH : H pL = none := by
          cases e : H pL with
          | none => rfl
          | some o =>
            rw [kp4 _ _ e] at pL4
            cases pL4
        have hsz : sz t' ≤ 61 := by
          have z1 := nv_sz _ _ _ _ _ en
          have z2 := nv_le _ _ _ _ _ en
          have z3 : ([] : List V).length = 0 := rfl
          omega
        have hR : ∀ b o, newIn H H4 b = some o → H b = none := fun b o h => (newIn_some h).1
        have nb : But x H (upd (upd H6 pt2 (.tup [])) pL (.lst [.ref pt2])) := fun b o nb h => s68 _ _ (st6 _ _ (kp4 _ _ h) (ne_of_none h hp) nb)
        refine rw' _ (H := H) (HR := newIn H H4) (x := x) (N := p) (L := pL) (dx := dx) (t := t') (now := []) (M := sz t') (kvs := [([], v')]) (todo := [(pt2, [])]) ⟨⟨_, hx⟩, hp, pLH, hR, ?_, ?_, hsz⟩ hsz ⟨s68 _ _ hx6, s68 _ _ hp6, hL8, ?_, nb⟩ (Fl.start ?_ hsz) ?_ ?_
        · intro kv z
          rw [newIn_of hp, hp4] at z
          cases z
        · intro kv z
          rw [newIn_of pLH, pL4] at z
          cases z
        · intro q0 hq0
          rw [List.mem_singleton] at hq0
          subst hq0
          exact ht8
        · exact hv'.mono (newIn_part (fun b o h => ⟨_, s13 _ _ h⟩) fun _ _ _ e => e)
        · intro b kv hb0
          obtain ⟨z1, z2⟩ := newIn_some hb0
          refine s68 _ _ (st6 _ _ z2 (fun z => ?_) (fun z => ?_))
          · rw [z, hp4] at z2
            cases z2
          · rw [z, hx] at z1
            cases z1
        · intro σ H9 kvs S9 F9 k9
          refine hQ t' n en H9 p kvs S9.ox ?_ (F9.mono fun b kv hb0 => ?_) S9.kp
          · rw [newIn_of hp]
            exact S9.on
          · rw [newIn_of (hR _ _ hb0)]
            exact k9 b kv hb0
      · intro en H4 hb _
        exact hE en H4 fun b o nx h => hb b o (fun z => by
          rw [z, pmH] at h
          cases h) (s13 _ _ h)
    · exact ⟨_, rfl, _, .ty "dict", _, _, false, rfl, .ty _, hty, hk, _, rfl, iteT hE⟩
end
end Tx
set_option Elab.async false
set_option linter.all false
set_option maxRecDepth 100000
set_option maxHeartbeats 8000000
namespace Tx
open PySem PySem.Spec PyProof.Rows L2 Cm
theorem callIsiK {X : Cx} {K : PySem.W.Frag} (h : X.K = K) : CallR X (.builtin "isinstance") (rIsi K) := h ▸ call_isi
abbrev sHeld : Stmt := inClass sTree 2
abbrev sKind : Stmt := inClass sTree 3
abbrev sValue : Stmt := inClass sTree 4
/-- a Tree of the nodes t stands at a -/
structure TrAt (H : Hp) (CT a : Addr) (t : Nd) : Prop where
  ex : ∃ dx N kvs, H a = some (.ins CT dx (fl N)) ∧ H N = some (.dT kvs) ∧ FlatD H t kvs
theorem TrAt.same {H H' : Hp} {CT a : Addr} {t : Nd} (h : TrAt H CT a t) (s : Same H H') : TrAt H' CT a t := by
  obtain ⟨dx, N, kvs, h1, h2, h3⟩ := h.ex
  exact ⟨dx, N, kvs, s _ _ h1, s _ _ h2, h3.mono (DKeep.same s)⟩
/-- what held returns for what stands at the path -/
def HeldV (H : Hp) : Option Nd → V → Prop
  | none, v => v = .non
  | some u, v => NdAt H v u
def spHeld (CT : Addr) : Sp := fun vs H Q _ => ∃ a b t p, vs = [.ref a, .ref b] ∧ TrAt H CT a t ∧ H b = some (.tup (p.map V.str)) ∧ p.length ≤ 900 ∧ ∀ v H', Same H H' → HeldV H (sub t p) v → Q v H'
def kindV : Option Nd → V
  | none => .non
  | some (.dir _) => .str "dir"
  | some (.lnk _) => .str "link"
  | some (.fil _) => .str "file"
def valueV : Option Nd → V
  | none => .non
  | some (.dir _) => .non
  | some (.lnk z) => .str z
  | some (.fil i) => .int i
def spKind (CT : Addr) : Sp := fun vs H Q _ => ∃ a b t p, vs = [.ref a, .ref b] ∧ TrAt H CT a t ∧ H b = some (.tup (p.map V.str)) ∧ p.length ≤ 900 ∧ ∀ H', Same H H' → Q (kindV (sub t p)) H'
def spValue (CT : Addr) : Sp := fun vs H Q _ => ∃ a b t p, vs = [.ref a, .ref b] ∧ TrAt H CT a t ∧ H b = some (.tup (p.map V.str)) ∧ p.length ≤ 900 ∧ ∀ H', Same H H' → Q (valueV (sub t p)) H'
theorem scHeld : FnScope ["self", "node", "name"] ["self", "node"] (defScope sHeld) := ⟨rfl, rfl, rfl, by decide +kernel, rfl, by decide +kernel, by decide +kernel⟩
theorem scKind : FnScope ["self", "node", "held"] ["self", "node"] (defScope sKind) := ⟨rfl, rfl, rfl, by decide +kernel, rfl, by decide +kernel, by decide +kernel⟩
theorem scValue : FnScope ["self", "node", "held"] ["self", "node"] (defScope sValue) := ⟨rfl, rfl, rfl, by decide +kernel, rfl, by decide +kernel, by decide +kernel⟩
section
variable {P : Program} {w : World} {K : PySem.W.Frag} {mg : Str → Option Value} {base : Heap} {f CT : Addr} {fd : FuncData}
theorem ok_held {k : Nat} (F : Fun K "held" "Tree.held" sHeld f fd) (B : Bi mg) (T : Tr K mg CT) : FnOk P w K mg base CX0 (k + 1) f fd ["self", "node"] (spHeld CT) := by
  refine F.ok scHeld (fun vs H Q E h => ?_) (fun cdv A outer s H vs Q E hr h => ?_)
  · obtain ⟨a, b, t, p, rfl, _⟩ := h
    rfl
  · obtain ⟨a, b, t, p, rfl, hT, hb, hl, q⟩ := h
    have hu1 : (A.deeper (envOfC "Tree.held" (defScope sHeld) s.heap.objs.size f cdv)).units + 1 < cLine := by
      have := hr.units
      omega
    refine ⟨_, pss_cons (ps_if (PW.pt (pw_or (pt_not (pt_val (pe_callB call_isi (by rfl) B.isin (by decide +kernel) (pa_cons (pv 1) (pa_cons (pe_bltn (v := .ty "tuple") (by rfl) B.tuple (by decide +kernel) rfl) pa_nil))))) (pw_or1 (pt_not (pt_val (pe_callB (cr_all rfl) (by rfl) B.all (by decide +kernel) (pa_cons (pe_lc (own := [("name", 2)]) (g := gName 2) (tt := tYes) (by rfl) scHeld.nd (pi_tup (pv 1)) (blkOk_by (own := [("name", 2)]) (N := ["self", "node", "name"]) (sc := defScope sHeld) (by decide +kernel)) (fun _ _ _ _ _ => pg_name (i := 2) scHeld.nd rfl (Or.inl rfl)) (fun _ _ _ _ _ => pts_nil)
          (fun _ _ _ _ _ => pe_callB (callIsiK (K := K) rfl) (by rfl) B.isin (by decide +kernel) (pa_cons (pv 2) (pa_cons (pe_bltn (v := .ty "str") (by rfl) B.str (by decide +kernel) rfl) pa_nil)))) pa_nil))))))) (pss_one (ps_ret pe_non)) pss_nil)
      (pss_one (ps_ret (pe_dget1 hu1 (pe_fld (pv 0) rfl) (pv 1) ⟨rfl, rfl, rfl, rfl⟩))), ?_⟩
    refine ⟨_, rfl, _, .ty "tuple", _, _, true, rfl, .ty _, .base (.tup hb), kit_ty (by decide +kernel), _, rfl, iteF ?_⟩
    refine ⟨_, rfl, b, rfl, ⟨_, SqT.of hb⟩, fun D hD => lc_tup (K := K) (a := b) (xs := p.map V.str) (fun i H' => H' D = some (.lst ((List.replicate i true).map V.bl)) ∧ Same H H') ⟨upd_same, same_new hD⟩ (fun i H' _ h => SqT.of (h.2 _ _ hb)) ?_ ?_⟩
    · rintro i x H1 hx ⟨h3, sm⟩
      obtain ⟨z, rfl⟩ : ∃ z, x = V.str z := by
        rw [List.getElem?_map] at hx
        cases e : p[i]? with
        | none =>
          rw [e] at hx
          cases hx
        | some z =>
          rw [e] at hx
          exact ⟨z, (Option.some.inj hx).symm⟩
      have hi : i < (p.map V.str).length := (List.getElem?_eq_some_iff.mp hx).1
      rw [List.length_map] at hi
      refine ⟨rfl, _, rfl, _, .ty "str", _, _, true, rfl, .ty _, .base (.str z), kit_ty (by decide +kernel), ?_⟩
      refine ⟨_, h3, small1000 (by rw [List.length_map, List.length_replicate]; omega), ?_, same_mut hD sm⟩
      rw [upd_same, List.replicate_succ', List.map_append]
      rfl
    · rintro H1 ⟨h3, sm⟩
      refine ⟨D, _, rfl, SqL.of h3, _, rfl, ?_⟩
      have ea : (List.replicate (p.map V.str).length true).all id = true := by
        rw [List.all_eq_true]
        intro x hx
        rw [List.eq_of_mem_replicate hx]
        rfl
      rw [ea]
      refine iteF ?_
      obtain ⟨dx, N, kvs, h1, h2, h4⟩ := hT.ex
      have g1 : DGet H1 N (.ref b) (valV kvs (pk p)) := DGet.t (sm _ _ h2) (by rw [pk_kV]; exact sm _ _ hb)
      refine ⟨_, rfl, a, CT, dx, fl N, .ref N, rfl, sm _ _ h1, T.cl, T.nN, fl_nodes N, N, rfl, .inr ⟨kvs, .inl (sm _ _ h2)⟩, _, rfl, _, g1, q _ _ sm ?_⟩
      cases e : sub t p with
      | none =>
        rw [h4.no e]
        rfl
      | some u =>
        obtain ⟨v, hv, hn⟩ := h4.get e
        rw [hv]
        exact hn
theorem ok_kind {fH : Addr} {fdH : FuncData} {k : Nat} (F : Fun K "kind" "Tree.kind" sKind f fd) (B : Bi mg) (T : Tr K mg CT) (mH : Meth K CT "held" fH) (FH : FnOk P w K mg base CX0 (k + 1) fH fdH ["self", "node"] (spHeld CT)) (bH : Binds K fdH ["self", "node"] []) :
    FnOk P w K mg base CX0 (k + 2) f fd ["self", "node"] (spKind CT) := by
  refine F.ok scKind (fun vs H Q E h => ?_) (fun cdv A outer s H vs Q E hr h => ?_)
  · obtain ⟨a, b, t, p, rfl, _⟩ := h
    rfl
  · obtain ⟨a, b, t, p, rfl, hT, hb, hl, q⟩ := h
    refine ⟨_, pss_cons (ps_set (i := 2) scKind.nd rfl (Or.inl rfl) (pe_meth (pv 0) T.cl mH FH hr bH .nil pass0 (pa_cons (pv 1) pa_nil)))
      (pss_cons (ps_if (pt_cmp (pc_isN (pv 2))) (pss_one (ps_ret pe_non)) pss_nil)
      (pss_cons (ps_if (pt_val (pe_callB call_isi (by rfl) B.isin (by decide +kernel) (pa_cons (pv 2) (pa_cons (pe_bltn (v := .ty "dict") (by rfl) B.dict (by decide +kernel) rfl) pa_nil)))) (pss_one (ps_ret pe_str)) pss_nil)
      (pss_one (ps_ret (pe_ifExp (pt_val (pe_callB call_isi (by rfl) B.isin (by decide +kernel) (pa_cons (pv 2) (pa_cons (pe_bltn (v := .ty "str") (by rfl) B.str (by decide +kernel) rfl) pa_nil)))) pe_str pe_str))))), ?_⟩
    obtain ⟨dx, N, kvs, h1, h2, h4⟩ := hT.ex
    refine ⟨_, rfl, a, dx, fl N, rfl, h1, fl_no N (by decide +kernel), _, rfl, a, b, t, p, rfl, hT, hb, hl, fun v H1 sm hv => ?_⟩
    have qq := q H1 sm
    cases e : sub t p with
    | none =>
      rw [e] at hv qq
      obtain rfl : v = .non := hv
      exact ⟨_, rfl, _, rfl, iteT qq⟩
    | some u =>
      rw [e] at hv qq
      have hv' : NdAt H v u := hv
      cases hv' with
      | fil i =>
        refine ⟨_, rfl, _, rfl, iteF ?_⟩
        refine ⟨_, rfl, _, .ty "dict", _, _, false, rfl, .ty _, .base (.int i), kit_ty (by decide +kernel), _, rfl, iteF ?_⟩
        exact ⟨_, rfl, _, .ty "str", _, _, false, rfl, .ty _, .base (.int i), kit_ty (by decide +kernel), _, rfl, iteF qq⟩
      | lnk z hz =>
        refine ⟨_, rfl, _, rfl, iteF ?_⟩
        refine ⟨_, rfl, _, .ty "dict", _, _, false, rfl, .ty _, .base (.str z), kit_ty (by decide +kernel), _, rfl, iteF ?_⟩
        exact ⟨_, rfl, _, .ty "str", _, _, true, rfl, .ty _, .base (.str z), kit_ty (by decide +kernel), _, rfl, iteT qq⟩
      | dir h _ _ _ _ _ =>
        refine ⟨_, rfl, _, rfl, iteF ?_⟩
        exact ⟨_, rfl, _, .ty "dict", _, _, true, rfl, .ty _, .base (.dK (sm _ _ h)), kit_ty (by decide +kernel), _, rfl, iteT qq⟩
theorem ok_value {fH : Addr} {fdH : FuncData} {k : Nat} (F : Fun K "value" "Tree.value" sValue f fd) (B : Bi mg) (T : Tr K mg CT) (mH : Meth K CT "held" fH) (FH : FnOk P w K mg base CX0 (k + 1) fH fdH ["self", "node"] (spHeld CT)) (bH : Binds K fdH ["self", "node"] []) :
    FnOk P w K mg base CX0 (k + 2) f fd ["self", "node"] (spValue CT) := by
  refine F.ok scValue (fun vs H Q E h => ?_) (fun cdv A outer s H vs Q E hr h => ?_)
  · obtain ⟨a, b, t, p, rfl, _⟩ := h
    rfl
  · obtain ⟨a, b, t, p, rfl, hT, hb, hl, q⟩ := h
    refine ⟨_, pss_cons (ps_set (i := 2) scValue.nd rfl (Or.inl rfl) (pe_meth (pv 0) T.cl mH FH hr bH .nil pass0 (pa_cons (pv 1) pa_nil)))
      (pss_one (ps_ret (pe_ifExp (pt_val (pe_callB call_isi (by rfl) B.isin (by decide +kernel) (pa_cons (pv 2) (pa_cons (pe_bltn (v := .ty "dict") (by rfl) B.dict (by decide +kernel) rfl) pa_nil)))) pe_non (pv 2)))), ?_⟩
    obtain ⟨dx, N, kvs, h1, h2, h4⟩ := hT.ex
    refine ⟨_, rfl, a, dx, fl N, rfl, h1, fl_no N (by decide +kernel), _, rfl, a, b, t, p, rfl, hT, hb, hl, fun v H1 sm hv => ?_⟩
    have qq := q H1 sm
    cases e : sub t p with
    | none =>
      rw [e] at hv qq
      obtain rfl : v = .non := hv
      exact ⟨_, rfl, _, .ty "dict", _, _, false, rfl, .ty _, .base .non, kit_ty (by decide +kernel), _, rfl, iteF ⟨_, rfl, qq⟩⟩
    | some u =>
      rw [e] at hv qq
      have hv' : NdAt H v u := hv
      cases hv' with
      | fil i => exact ⟨_, rfl, _, .ty "dict", _, _, false, rfl, .ty _, .base (.int i), kit_ty (by decide +kernel), _, rfl, iteF ⟨_, rfl, qq⟩⟩
      | lnk z hz => exact ⟨_, rfl, _, .ty "dict", _, _, false, rfl, .ty _, .base (.str z), kit_ty (by decide +kernel), _, rfl, iteF ⟨_, rfl, qq⟩⟩
      | dir h _ _ _ _ _ => exact ⟨_, rfl, _, .ty "dict", _, _, true, rfl, .ty _, .base (.dK (sm _ _ h)), kit_ty (by decide +kernel), _, rfl, iteT qq⟩
end
end Tx
set_option Elab.async false
set_option linter.all false
set_option maxRecDepth 100000
set_option maxHeartbeats 8000000
namespace Tx
open PySem PySem.Spec PyProof.Rows L2 Cm
theorem scDigit : FnScope ["_law_state", "_law_base", "_law_cell", "_law_found", "_law_number"] ["_law_state", "_law_base"] (defScope sDigit) := ⟨rfl, rfl, rfl, by decide +kernel, rfl, by decide +kernel, by decide +kernel⟩
theorem scCell : FnScope ["_law_script", "_law_k"] ["_law_script", "_law_k"] (defScope sCell) := ⟨rfl, rfl, rfl, by decide +kernel, rfl, by decide +kernel, by decide +kernel⟩
/-- _law_cell_at -/
def spCell (K : PySem.W.Frag) : Sp := fun vs H Q _ => ∃ (a : Addr) (ns : List Int) (k : Nat), vs = [.ref a, .int k] ∧ SqL K H a (ns.map V.int) ∧ ∀ i : Int, (∀ j, ns[k]? = some j → i = j) → Q (.int i) H
section
variable {P : Program} {w : World} {K : PySem.W.Frag} {mg : Str → Option Value} {base : Heap}
theorem ok_cell {f : Addr} {fd : FuncData} {k : Nat} (F : Fun K "_law_cell_at" "_law_cell_at" sCell f fd) (B : Bi mg) : FnOk P w K mg base CX0 (k + 1) f fd ["_law_script", "_law_k"] (spCell K) := by
  refine F.ok scCell (fun vs H Q E h => ?_) (fun cdv A outer s H vs Q E hr h => ?_)
  · obtain ⟨a, ns, j, rfl, _⟩ := h
    rfl
  · obtain ⟨a, ns, j, rfl, hS, q⟩ := h
    refine ⟨_, pss_cons (ps_if (pt_cmpR op_lt (pv 1) (pe_callB call_len_seq (by rfl) B.len PySem.boot_len (pa_cons (pv 0) pa_nil)) (nomark _)) (pss_one (ps_ret (pe_ix ix_list (pv 0) (pv 1) (fun _ _ => rfl)))) pss_nil) (pss_one (ps_ret pe_int)), ?_⟩
    refine ⟨_, rfl, _, rfl, a, _, rfl, .inl hS, _, _, rfl, rfl, _, rfl, ite2 (fun c => ?_) (fun c => ?_)⟩
    · have c' : (j : Int) < ((ns.map V.int).length : Nat) := of_decide_eq_true c
      rw [List.length_map] at c'
      have hj : j < ns.length := by omega
      refine ⟨_, rfl, _, rfl, a, _, j, .int ns[j], rfl, rfl, hS, ?_, q _ fun i e => ?_⟩
      · refine atI_nat ?_
        rw [List.getElem?_map, List.getElem?_eq_getElem hj]
        rfl
      · rw [List.getElem?_eq_getElem hj] at e
        exact Option.some.inj e
    · have c' : ¬ (j : Int) < ((ns.map V.int).length : Nat) := fun z => c (decide_eq_true z)
      rw [List.length_map] at c'
      exact q 0 fun i e => by
        have := (List.getElem?_eq_some_iff.mp e).1
        omega
theorem ok_digit {f : Addr} {fd : FuncData} {k : Nat} (F : Fun K "_law_digit" "_law_digit" sDigit f fd) (B : Bi mg) : FnOk P w K mg base CX0 (k + 1) f fd ["_law_state", "_law_base"] spDigit := by
  refine F.ok scDigit (fun vs H Q E h => ?_) (fun cdv A outer s H vs Q E hr h => ?_)
  · obtain ⟨l, st, b, rfl, _⟩ := h
    rfl
  · obtain ⟨l, st, b, rfl, hl, hst, hb0, hb1, q⟩ := h
    refine ⟨_, C8.pss_cut (ps_if (pt_cmpR op_eq (pe_callB call_len_seq (by rfl) B.len PySem.boot_len (pa_cons (pv 0) pa_nil)) pe_int (nomark _))
        (pss_cons (ps_set (i := 2) scDigit.nd rfl (.inl rfl) (pe_ix ix_list (pv 0) pe_int (fun _ _ => rfl)))
        (pss_cons (ps_asg (pe_ix ix_list (pe_lst (pa_cons pe_int (pa_cons (pv 2) pa_nil))) (pe_callTy call_int1 (by rfl) B.int (by decide +kernel) (pa_cons (pe_cmpR op_ge (pv 2) (pe_op op_pow pe_int pe_int) (nomark _)) pa_nil)) (fun _ _ => rfl)) (pg_sub (pv 0) pe_int set_list))
          (pss_one (ps_expr (pe_bm PySem.F.plainAttrs_list PySem.F.slot_list_extend PySem.F.type_list_extend mt_extend (pv 0) (pa_cons (pe_lst (pa_cons (pe_op op_mod (pe_callTy call_int1 (by rfl) B.int (by decide +kernel) (pa_cons (pv 2) pa_nil)) pe_int) (pa_cons pe_int pa_nil))) pa_nil))))))
        pss_nil)
      (pss_cons (ps_if (pt_cmpR op_gt (pe_ix ix_list (pv 0) pe_int (fun _ _ => rfl)) pe_int (nomark _))
        (pss_cons (ps_set (i := 3) scDigit.nd rfl (.inl rfl) (pe_op op_mod (pe_callTy call_int1 (by rfl) B.int (by decide +kernel) (pa_cons (pe_ix ix_list (pv 0) pe_int (fun _ _ => rfl)) pa_nil)) (pv 1)))
          (pss_cons (ps_asg (pe_op op_fdiv (pe_ix ix_list (pv 0) pe_int (fun _ _ => rfl)) (pv 1)) (pg_sub (pv 0) pe_int set_list))
          (pss_one (ps_ret (pv 3))))) pss_nil)
      (pss_cons (ps_asg (pe_op op_add (pe_ix ix_list (pv 0) pe_int (fun _ _ => rfl)) pe_int) (pg_sub (pv 0) pe_int set_list))
      (pss_cons (ps_set (i := 4) scDigit.nd rfl (.inl rfl) (pe_op op_mod (pe_callTy call_int1 (by rfl) B.int (by decide +kernel) (pa_cons (pe_op op_mul (pe_op op_add (pe_op op_add (pe_ix ix_list (pv 0) pe_int (fun _ _ => rfl)) (pe_op op_mul pe_int (pe_ix ix_list (pv 0) pe_int (fun _ _ => rfl)))) pe_int) pe_int) pa_nil)) pe_int))
      (pss_cons (ps_set (i := 4) scDigit.nd rfl (.inl rfl) (pe_op op_mod (pe_callTy call_int1 (by rfl) B.int (by decide +kernel) (pa_cons (pe_op op_mul (pv 4) (pe_op op_add (pe_op op_fdiv (pv 4) pe_int) pe_int)) pa_nil)) pe_int))
      (pss_one (ps_ret (pe_op op_mod (pe_op op_mod (pe_callTy call_int1 (by rfl) B.int (by decide +kernel) (pa_cons (pe_op op_mul (pv 4) (pe_op op_add (pe_op op_fdiv (pv 4) pe_int) pe_int)) pa_nil)) pe_int) (pv 1)))))))), ?_⟩
    refine ⟨fun σ' H' => ∃ x a b' c, σ' = [some (.ref l), some (.int b), x, none, none] ∧ H' l = some (.lst [.int a, .int b', .int c]) ∧ But l H H', ?_, ?_⟩
    · refine ⟨_, rfl, l, st, rfl, .inl (SqL.of hl), rfl, _, rfl, ?_⟩
      rcases hst with ⟨c, rfl⟩ | ⟨a, b', c, rfl⟩
      · refine iteT ?_
        refine ⟨_, rfl, l, _, 0, .int c, rfl, rfl, SqL.of hl, rfl, ?_⟩
        refine ⟨_, rfl, (by show 2 ≤ sizeLine; decide), fun p hp => ?_⟩
        refine ⟨_, rfl, 10, 18, rfl, rfl, ⟨by decide, by decide, by decide⟩, c, _, rfl, rfl, .inr ⟨_, rfl, ?_⟩⟩
        have npl : l ≠ p := ne_of_none hl hp
        have hl1 : upd H p (.lst [.int 0, .int c]) l = some (.lst [.int c]) := by
          rw [upd_ne npl]
          exact hl
        obtain ⟨z, hz⟩ : ∃ z : Int, atI [V.int 0, V.int c] (if decide (10 ^ Int.toNat 18 ≤ c) = true then 1 else 0) = some (.int z) := by
          split
          · exact ⟨c, rfl⟩
          · exact ⟨0, rfl⟩
        refine ⟨p, _, _, .int z, rfl, rfl, SqL.of upd_same, hz, ?_⟩
        refine ⟨_, rfl, l, _, 0, 0, rfl, rfl, hl1, rfl, ?_⟩
        refine ⟨_, rfl, .inl ⟨rfl, _, SqL.of upd_same⟩, _, rfl, .inl ⟨c, rfl, ?_⟩⟩
        refine ⟨_, _, rfl, rfl, (by show (0 : Int) < 2147483647; decide), (by show 2 ≤ sizeLine; decide), fun p2 hp2 => ?_⟩
        have np2 : l ≠ p2 := ne_of_none upd_same hp2
        refine ⟨l, p2, _, _, rfl, rfl, (by rw [upd_ne np2]; exact upd_same), upd_same, (by show 1 + 2 ≤ sizeLine; decide), ?_⟩
        refine ⟨_, _, _, _, rfl, upd_same, fun b u n e => ?_⟩
        have e1 : upd H p (.lst [.int 0, .int c]) b = some u := by
          rw [upd_ne (ne_of_none e hp)]
          exact e
        have e2 : upd (upd H p (.lst [.int 0, .int c])) l (.lst [.int z]) b = some u := by
          rw [upd_ne n]
          exact e1
        rw [upd_ne n, upd_ne (ne_of_none e2 hp2)]
        exact e2
      · refine iteF ?_
        exact ⟨_, a, b', c, rfl, hl, But.refl l H⟩
    · rintro σ' H1 ⟨x, a, b', c, rfl, h1, bt⟩
      refine ⟨_, rfl, l, _, 0, .int a, rfl, rfl, SqL.of h1, rfl, a, 0, rfl, rfl, _, rfl, ite2 (fun ha => ?_) (fun ha => ?_)⟩
      · refine ⟨_, rfl, l, _, 0, .int a, rfl, rfl, SqL.of h1, rfl, .inl ⟨a, rfl, ?_⟩⟩
        refine ⟨_, rfl, a, b, rfl, rfl, hb0, ?_⟩
        refine ⟨_, rfl, l, _, 0, .int a, rfl, rfl, SqL.of h1, rfl, ?_⟩
        refine ⟨_, rfl, a, b, rfl, rfl, ⟨hb0, hb1⟩, ?_⟩
        refine ⟨_, rfl, l, _, 0, 0, rfl, rfl, h1, rfl, ?_⟩
        refine ⟨_, rfl, ?_⟩
        obtain ⟨d, hd, ed⟩ := mod_nat (x := a) hb0
        dsimp only
        rw [ed]
        exact q d _ _ hd (.inr ⟨_, _, _, rfl⟩) upd_same (bt.trans But.upd)
      · refine ⟨_, rfl, l, _, 2, .int c, rfl, rfl, SqL.of h1, rfl, c, 1, rfl, rfl, ?_⟩
        refine ⟨_, rfl, l, _, 2, 2, rfl, rfl, h1, rfl, ?_⟩
        refine ⟨_, rfl, l, _, 1, .int b', rfl, rfl, SqL.of upd_same, rfl, ?_⟩
        refine ⟨_, rfl, l, _, 2, .int (c + 1), rfl, rfl, SqL.of upd_same, rfl, ?_⟩
        refine ⟨7919, c + 1, rfl, rfl, .inl ⟨by decide, by decide⟩, b', _, rfl, rfl, _, _, rfl, rfl, _, _, rfl, rfl, .inr ⟨by decide, by decide⟩, .inl ⟨_, rfl, ?_⟩⟩
        refine ⟨_, _, rfl, rfl, (by show (0 : Int) < 2147483647; decide), ?_⟩
        obtain ⟨n1, hn1, en1⟩ := mod_nat (x := (b' + 7919 * (c + 1) + 1) * 48271) (b := 2147483647) (by decide)
        dsimp only
        rw [en1]
        refine ⟨_, rfl, _, rfl, n1, 1009, rfl, rfl, ⟨by decide, by decide⟩, _, _, rfl, rfl, n1, _, rfl, rfl, .inl ⟨by omega, by omega⟩, .inl ⟨_, rfl, ?_⟩⟩
        refine ⟨_, _, rfl, rfl, (by show (0 : Int) < 2147483647; decide), ?_⟩
        obtain ⟨n2, hn2, en2⟩ := mod_nat (x := (n1 : Int) * ((n1 : Int) / 1009 + 69621)) (b := 2147483647) (by decide)
        dsimp only
        rw [en2]
        refine ⟨_, rfl, _, rfl, n2, 2003, rfl, rfl, ⟨by decide, by decide⟩, _, _, rfl, rfl, n2, _, rfl, rfl, .inl ⟨by omega, by omega⟩, .inl ⟨_, rfl, ?_⟩⟩
        refine ⟨_, _, rfl, rfl, (by show (0 : Int) < 2147483399; decide), _, rfl, _, b, rfl, rfl, hb0, ?_⟩
        obtain ⟨d, hd, ed⟩ := mod_nat (x := (n2 : Int) * ((n2 : Int) / 2003 + 40692) % 2147483399) hb0
        dsimp only
        rw [ed]
        exact q d _ _ hd (.inr ⟨_, _, _, rfl⟩) upd_same (bt.trans But.upd)
end
end Tx
set_option Elab.async false
set_option linter.all false
set_option maxRecDepth 100000
set_option maxHeartbeats 8000000
namespace Tx
open PySem PySem.Spec PyProof.Rows L2 Cm
theorem scWord : FnScope ["_law_word", "_law_sign"] ["_law_word"] (defScope sWord) := ⟨rfl, rfl, rfl, by decide +kernel, rfl, by decide +kernel, by decide +kernel⟩
theorem scFits : FnScope ["_law_text", "_law_words", "_law_word"] ["_law_text"] (defScope sFits) := ⟨rfl, rfl, rfl, by decide +kernel, rfl, by decide +kernel, by decide +kernel⟩
def spWord : Sp := fun vs H Q _ => ∃ z, vs = [.str z] ∧ z.length ≤ 100000 ∧ ∀ H', Same H H' → Q (.bl (wordB z)) H'
/-- the words that the law looks at -/
def lawWords (z : Str) : List Str := if 1 < (Txt.split z "/").length ∧ (Txt.split z "/")[0]? = some ("" : Str) then (Txt.split z "/").drop 1 else Txt.split z "/"
def fitsB (z : Str) : Bool := if z = "/" then true else ((lawWords z).map wordB).all id
def spFits : Sp := fun vs H Q _ => ∃ z, vs = [.str z] ∧ z.length ≤ 100000 ∧ ∀ H', Same H H' → Q (.bl (fitsB z)) H'
theorem cut1 {α : Type} (xs : List V) (h : 1 < xs.length) : cutV xs (some 1) none = xs.drop 1 := by
  unfold cutV
  have e1 : HT.sIx xs.length 0 (some 1) = 1 := by
    unfold HT.sIx
    simp
    omega
  have e2 : HT.sIx xs.length xs.length none = xs.length := by
    unfold HT.sIx
    simp
  rw [e1, e2]
  exact List.take_of_length_le (by rw [List.length_drop]; exact Nat.le_refl _)
section
variable {P : Program} {w : World} {K : PySem.W.Frag} {mg : Str → Option Value} {base : Heap}
theorem ok_word {f : Addr} {fd : FuncData} {k : Nat} (F : Fun K "_law_is_word" "_law_is_word" sWord f fd) (B : Bi mg) : FnOk P w K mg base CX0 (k + 1) f fd ["_law_word"] spWord := by
  refine F.ok scWord (fun vs H Q E h => ?_) (fun cdv A outer s H vs Q E hr h => ?_)
  · obtain ⟨x, rfl, _⟩ := h
    rfl
  · obtain ⟨z, rfl, hz, q⟩ := h
    refine ⟨_, pss_cons (ps_if (pt_cmpR (opInK (K := K) rfl) (pv 0) (pe_tup (pa_cons pe_str (pa_cons pe_str pa_nil))) (by rfl)) (pss_one (ps_ret pe_bl)) pss_nil) (pss_one (ps_ret
      (pe_and (pe_chain op_le op_le pe_int (pe_callB call_len_str (by rfl) B.len PySem.boot_len (pa_cons (pv 0) pa_nil)) pe_int)
        (pe_one (pe_callB (cr_all rfl) (by rfl) B.all (by decide +kernel) (pa_cons (pe_lc (own := [("_law_sign", 1)]) (g := gName 1) (tt := tYes) (by rfl) scWord.nd (pi_str (pv 0)) (blkOk_by (own := [("_law_sign", 1)]) (N := ["_law_word", "_law_sign"]) (sc := defScope sWord) (by decide +kernel)) (fun _ _ _ _ _ => pg_name (i := 1) scWord.nd rfl (Or.inl rfl)) (fun _ _ _ _ _ => pts_nil)
          (fun _ _ _ _ _ => pe_cmpR op_in_sign (pv 1) pe_str rfl)) pa_nil)))))), ?_⟩
    refine ⟨_, rfl, (by show 2 ≤ sizeLine; decide), fun t ht => ?_⟩
    have s0 := same_new (o := HO.tup dots) ht
    refine ⟨t, dots, rfl, .inr (SqT.of upd_same), rfl, rfl, _, rfl, ite2 (fun c => ?_) (fun c => ?_)⟩
    · have ew1 : wordB z = true := by
        unfold wordB
        rw [show inV (.str z) dots = true from c, Bool.true_or]
      rw [ew1] at q
      exact q _ s0
    · have c' : inV (.str z) dots = false := by simpa using c
      have ew1 : wordB z = nameB z := by
        unfold wordB
        rw [c', Bool.false_or]
      rw [ew1] at q
      refine ⟨_, rfl, z, rfl, Evl.sz_of hz, 1, _, rfl, rfl, _, rfl, ite2 (fun h1 => ?_) (fun h1 => ?_)⟩
      · refine ⟨_, _, rfl, rfl, _, rfl, ite2 (fun h2 => ?_) (fun h2 => ?_)⟩
        · refine ⟨_, rfl, z, rfl, fun D hD => lc_it walk_str (fun i H' => H' D = some (.lst (((z.cps.toList.map signB).take i).map V.bl)) ∧ Same (upd H t (.tup dots)) H') ⟨upd_same, same_new hD⟩ (fun _ _ _ _ => True.intro) ?_ ?_⟩
          · rintro i x H1 H2 hi ⟨h3, sm⟩ ⟨rfl, c, hc, rfl⟩
            refine ⟨rfl, _, rfl, c, letters, rfl, rfl, _, h3, Evl.sz_lt ?_, ?_, same_mut hD sm⟩
            · rw [List.length_map, List.length_take]
              exact Nat.lt_of_le_of_lt (Nat.min_le_left _ _) (Nat.lt_of_lt_of_le hi hz)
            · rw [upd_same, take_snoc (signs_at z hc), List.map_append]
              rfl
          · rintro H1 ⟨h3, sm⟩
            have e : (z.cps.toList.map signB).take z.cps.size = z.cps.toList.map signB := List.take_of_length_le (by rw [List.length_map, Array.length_toList]; exact Nat.le_refl _)
            rw [e] at h3
            refine ⟨D, _, rfl, SqL.of h3, ?_⟩
            have eb : nameB z = (z.cps.toList.map signB).all id := by
              unfold nameB
              rw [h1, h2, Bool.true_and, Bool.true_and]
            rw [← eb]
            exact q H1 (s0.trans sm)
        · have eb : nameB z = false := by
            unfold nameB
            have h2' : decide ((z.length : Int) ≤ 8) = false := by simpa using h2
            rw [h2', Bool.false_and, Bool.and_false]
          rw [eb] at q
          exact q _ s0
      · have eb : nameB z = false := by
          unfold nameB
          have h1' : decide (1 ≤ (z.length : Int)) = false := by simpa using h1
          rw [h1', Bool.false_and]
        rw [eb] at q
        exact ⟨_, rfl, iteF (q _ s0)⟩
theorem ok_fits {f : Addr} {fd : FuncData} {k : Nat} (F : Fun K "_law_fits" "_law_fits" sFits f fd) (B : Bi mg) (W : Cl P w K mg base CX0 (k + 1) "_law_is_word" ["_law_word"] spWord) : FnOk P w K mg base CX0 (k + 2) f fd ["_law_text"] spFits := by
  refine F.ok scFits (fun vs H Q E h => ?_) (fun cdv A outer s H vs Q E hr h => ?_)
  · obtain ⟨x, rfl, _⟩ := h
    rfl
  · obtain ⟨z, rfl, hz, q⟩ := h
    refine ⟨_, pss_cons (ps_if (pt_cmpR op_eq (pv 0) pe_str (nomark _)) (pss_one (ps_ret pe_bl)) pss_nil)
      (pss_cons (ps_set (i := 1) scFits.nd rfl (.inl rfl) (pe_split (pv 0) pe_str))
      (C8.pss_cut (ps_if (PW.pt (pw_and (pt_cmpR op_gt (pe_callB call_len_seq (by rfl) B.len PySem.boot_len (pa_cons (pv 1) pa_nil)) pe_int (nomark _)) (pw_and1 (pt_cmpR op_eq (pe_ix ix_list (pv 1) pe_int (fun _ _ => rfl)) pe_str (nomark _))))) (pss_one (ps_set (i := 1) scFits.nd rfl (.inl rfl) (pe_slice sl_list (pv 1) (po_some pe_int) po_none))) pss_nil)
      (pss_one (ps_ret (pe_callB (cr_all rfl) (by rfl) B.all (by decide +kernel) (pa_cons (pe_lc (own := [("_law_word", 2)]) (g := gName 2) (tt := tYes) (by rfl) scFits.nd (pi_list (pv 1)) (blkOk_by (own := [("_law_word", 2)]) (N := ["_law_text", "_law_words", "_law_word"]) (sc := defScope sFits) (by decide +kernel)) (fun _ _ _ _ _ => pg_name (i := 2) scFits.nd rfl (Or.inl rfl)) (fun _ _ _ _ _ => pts_nil)
          (fun _ _ _ _ _ => pe_cl W hr (by omega) (by rfl) pass0 (pa_cons (pv 2) pa_nil))) pa_nil)))))), ?_⟩
    refine ⟨_, rfl, rfl, _, rfl, ?_⟩
    by_cases e1 : z = "/"
    · have eb : fitsB z = true := by
        unfold fitsB
        rw [if_pos e1]
      rw [eb] at q
      subst e1
      exact iteT (q H (Same.refl H))
    rw [decide_eq_false (show ¬ V.str z = V.str "/" from fun h => e1 (V.str.inj h))]
    have eb : fitsB z = ((lawWords z).map wordB).all id := by
      unfold fitsB
      rw [if_neg e1]
    rw [eb] at q
    refine iteF ⟨_, rfl, ⟨_, rfl⟩, _, _, rfl, rfl, rfl, Nat.le_trans (show _ ≤ 100002 from Nat.add_le_add_right hz 2) (by decide), fun p hp => ?_⟩
    have hall : ∀ v ∈ Txt.split z "/", v.length ≤ 100000 := fun v hv => Nat.le_trans (part_short hv) hz
    have hlen : (Txt.split z "/").length < 200000 := Nat.lt_of_le_of_lt (split_le _ _) (Nat.lt_of_le_of_lt (Nat.add_le_add_right hz 2) (by decide))
    refine ⟨fun σ' H' => ∃ p ws, σ' = [some (.str z), some (.ref p), none] ∧ H' p = some (.lst (ws.map V.str)) ∧ Same H H' ∧ lawWords z = ws ∧ (∀ v ∈ ws, v.length ≤ 100000) ∧ ws.length < 200000, ?_, ?_⟩
    · have hsl : (((Txt.split z "/").map V.str).length : Int) = ((Txt.split z "/").length : Int) := by rw [List.length_map]
      refine ⟨_, rfl, p, _, rfl, .inl (SqL.of upd_same), _, _, rfl, rfl, _, rfl, ite2 (fun c => ?_) (fun c => ?_)⟩
      · have c' : (1 : Int) < (((Txt.split z "/").map V.str).length : Nat) := of_decide_eq_true c
        have c2 : 1 < (Txt.split z "/").length := by
          rw [List.length_map] at c'
          omega
        obtain ⟨w0, hw0⟩ : ∃ w0, (Txt.split z "/")[0]? = some w0 := ⟨_, List.getElem?_eq_getElem (by omega)⟩
        refine ⟨_, rfl, p, _, 0, .str w0, rfl, rfl, SqL.of upd_same, atI_nat (j := 0) (by rw [List.getElem?_map, hw0]; rfl), rfl, _, rfl, ite2 (fun d => ?_) (fun d => ?_)⟩
        · have d' : w0 = "" := V.str.inj (of_decide_eq_true d)
          refine ⟨_, rfl, 1, rfl, p, _, rfl, SqL.of upd_same, fun p2 hp2 => ?_⟩
          refine ⟨p2, (Txt.split z "/").drop 1, rfl, ?_, (same_new hp).trans (same_new hp2), ?_, fun v hv => hall v (List.mem_of_mem_drop hv), by rw [List.length_drop]; omega⟩
          · rw [upd_same, cut1 (α := Nat) _ (by rw [List.length_map]; exact c2), List.map_drop]
          · unfold lawWords
            rw [if_pos ⟨c2, by rw [hw0, d']⟩]
        · have d' : ¬ w0 = "" := fun e => d (by rw [e]; rfl)
          refine ⟨p, _, rfl, upd_same, same_new hp, ?_, hall, hlen⟩
          unfold lawWords
          rw [if_neg (fun h => d' (by
            have h2 := h.2
            rw [hw0] at h2
            exact Option.some.inj h2))]
      · have c' : ¬ (1 : Int) < (((Txt.split z "/").map V.str).length : Nat) := fun e => c (decide_eq_true e)
        refine ⟨p, _, rfl, upd_same, same_new hp, ?_, hall, hlen⟩
        unfold lawWords
        rw [if_neg (fun h => c' (by
          rw [List.length_map]
          have := h.1
          omega))]
    · rintro σ' H1 ⟨p1, ws, rfl, hp1, sm, hw, hal, hln⟩
      rw [hw] at q
      refine ⟨_, rfl, p1, rfl, ⟨_, SqL.of hp1⟩, fun D hD => lc_list (K := K) (a := p1) (xs := ws.map V.str) (fun i H' => H' D = some (.lst (((ws.map wordB).take i).map V.bl)) ∧ H' p1 = some (.lst (ws.map V.str)) ∧ Same H1 H') ⟨upd_same, by rw [upd_ne (ne_of_none hp1 hD)]; exact hp1, same_new hD⟩ (fun i H' _ h => SqL.of h.2.1) ?_ ?_⟩
      · rintro i x H2 hx ⟨h3, h4, sm2⟩
        rw [List.getElem?_map] at hx
        cases ew : ws[i]? with
        | none =>
          rw [ew] at hx
          cases hx
        | some wd =>
          rw [ew] at hx
          cases hx
          have hi := (List.getElem?_eq_some_iff.mp ew).1
          have np : p1 ≠ D := ne_of_none hp1 hD
          have eg : (ws.map wordB)[i]? = some (wordB wd) := by
            rw [List.getElem?_map, ew]
            rfl
          refine ⟨rfl, _, rfl, wd, rfl, hal wd (List.mem_of_getElem? ew), fun H3 s3 => ?_⟩
          refine ⟨_, s3 _ _ h3, Nat.lt_of_lt_of_le (show _ < 200000 from ?_) (by decide), ?_, ?_, same_mut hD (sm2.trans s3)⟩
          · rw [List.length_map, List.length_take, List.length_map]
            omega
          · rw [upd_same, take_snoc eg, List.map_append]
            rfl
          · rw [upd_ne np]
            exact s3 _ _ h4
      · rintro H2 ⟨h3, h4, sm2⟩
        have e : (ws.map wordB).take (ws.map V.str).length = ws.map wordB := List.take_of_length_le (by rw [List.length_map, List.length_map]; exact Nat.le_refl _)
        rw [e] at h3
        exact ⟨D, _, rfl, SqL.of h3, q H2 (sm.trans sm2)⟩
end
end Tx
set_option Elab.async false
set_option linter.all false
set_option maxRecDepth 100000
set_option maxHeartbeats 8000000
namespace Tx
open PySem PySem.Spec PyProof.Rows L2 Cm
theorem ixLK {X : Cx} {K : PySem.W.Frag} (h : X.K = K) : IxR X (rIxL K) := h ▸ ix_list
abbrev nJ : List Str := ["_law_state", "_law_some", "_law_good", "_law_words", "_law_ends", "_law_head", "_law_tail", "_law_k"]
theorem scJ : FnScope nJ ["_law_state"] (defScope sJoined) := ⟨rfl, rfl, rfl, by decide +kernel, rfl, by decide +kernel, by decide +kernel⟩
theorem scD : FnScope ["_law_state", "_law_k"] ["_law_state"] (defScope sDrawn) := ⟨rfl, rfl, rfl, by decide +kernel, rfl, by decide +kernel, by decide +kernel⟩
/-- a text is drawn -/
def spText : Sp := fun vs H Q _ => ∃ l, vs = [.ref l] ∧ Bs H l H ∧ ∀ z H', z.length ≤ 1000 → Bs H l H' → Q (.str z) H'
/-- texts, each of at most m signs -/
def Short (m : Nat) (ws : List Str) : Prop := ∀ z ∈ ws, z.length ≤ m
theorem short_sum {m : Nat} : ∀ {ws : List Str}, Short m ws → (ws.map (·.length)).sum ≤ ws.length * m
  | [], _ => by simp
  | z :: r, h => by
    have ih := short_sum (ws := r) fun y hy => h y (List.mem_cons_of_mem _ hy)
    have h1 := h z List.mem_cons_self
    rw [List.map_cons, List.sum_cons, List.length_cons, Nat.succ_mul]
    omega
theorem join_len (a : Str) (ws : List Str) : (Txt.join a ws).length ≤ (ws.map (·.length)).sum + ws.length * a.length := by
  have e : Txt.join a ws = Str.join a ws := StrLaws.glued_eq_join a ws
  rw [e]
  exact StrLaws.join_length_le a ws
theorem pickAB (g : Bool) (a b : Int) : atI [V.int a, V.int b] (if g = true then 1 else 0) = some (.int (if g = true then b else a)) := by
  cases g <;> rfl
section
variable {P : Program} {w : World} {K : PySem.W.Frag} {mg : Str → Option Value} {base : Heap} {f : Addr} {fd : FuncData}
theorem ok_drawn {k : Nat} (F : Fun K "_law_drawn" "_law_drawn" sDrawn f fd) (B : Bi mg) (Dg : Cl P w K mg base CX0 (k + 1) "_law_digit" ["_law_state", "_law_base"] spDigit) : FnOk P w K mg base CX0 (k + 2) f fd ["_law_state"] spText := by
  refine F.ok scD (fun vs H Q E h => ?_) (fun cdv A outer s H vs Q E hr h => ?_)
  · obtain ⟨x, rfl, _⟩ := h
    rfl
  · obtain ⟨l, rfl, bs, q⟩ := h
    refine ⟨_, pss_one (ps_ret (pe_join pe_str (pe_lc (own := [("_law_k", 1)]) (g := gName 1) (tt := tYes) (by rfl) scD.nd (pi_range1 (by rfl) B.range (pa_cons (pe_cl Dg hr (by omega) (by rfl) pass0 (pa_cons (pv 0) (pa_cons pe_int pa_nil))) pa_nil)) (blkOk_by (own := [("_law_k", 1)]) (N := ["_law_state", "_law_k"]) (sc := defScope sDrawn) (by decide +kernel)) (fun _ _ _ _ _ => pg_name (i := 1) scD.nd rfl (Or.inl rfl)) (fun _ _ _ _ _ => pts_nil)
      (fun _ _ _ _ _ => pe_ix ix_str pe_str (pe_cl Dg hr (by omega) (by rfl) pass0 (pa_cons (pv 0) (pa_cons pe_int pa_nil))) (fun _ _ => rfl))))), ?_⟩
    obtain ⟨st, hl, hst⟩ := bs.st
    refine ⟨⟨_, rfl⟩, _, rfl, l, st, _, rfl, hl, hst, by decide, by decide, fun d st1 H1 hd hst1 hl1 bt1 => ?_⟩
    have bs1 : Bs H l H1 := ⟨⟨st1, hl1, hst1⟩, bt1⟩
    refine ⟨d, rfl, by omega, by omega, fun D hD => lc_range (lo := 0) (n := (d : Int).toNat) (fun i H2 => Bs H l H2 ∧ ∃ ws : List Str, H2 D = some (.lst (ws.map V.str)) ∧ ws.length = i ∧ Short 1 ws) ⟨bs1.same (same_new hD), [], upd_same, rfl, fun _ h => nomatch h⟩ ?_ ?_⟩
    · rintro i H2 hi ⟨b2, ws, hw, hlen, hsh⟩
      obtain ⟨st2, hl2, hst2⟩ := b2.st
      refine ⟨rfl, _, rfl, l, st2, _, rfl, hl2, hst2, by decide, by decide, fun j st3 H3 hj hst3 hl3 bt3 => ?_⟩
      have nDl : D ≠ l := (ne_of_none hl1 hD).symm
      obtain ⟨c, hc⟩ : ∃ c, ("/.ab/.zA-\t" : Str).cps.toList[j]? = some c := by
        have e : ("/.ab/.zA-\t" : Str).cps.toList.length = 10 := by decide +kernel
        exact ⟨_, List.getElem?_eq_getElem (by omega)⟩
      refine ⟨_, j, c, rfl, rfl, by decide +kernel, atI_nat hc, _, bt3 _ _ nDl hw, small1000 (by rw [List.length_map]; omega), ⟨⟨st3, by rw [upd_ne nDl.symm]; exact hl3, hst3⟩, ?_⟩, ws ++ [⟨#[c]⟩], ?_, by rw [List.length_append, hlen]; rfl, ?_⟩
      · intro b o nb hb
        have z : H1 b = some o := bt1 b o nb hb
        rw [upd_ne (ne_of_none z hD)]
        exact bt3 b o nb (b2.but b o nb hb)
      · rw [upd_same, List.map_append]
        rfl
      · intro z hz
        rcases List.mem_append.mp hz with h | h
        · exact hsh z h
        · rw [List.mem_singleton] at h
          rw [h]
          exact Nat.le_refl _
    · rintro H2 ⟨b2, ws, hw, hlen, hsh⟩
      have hs := short_sum hsh
      have hj := join_len "" ws
      have e0 : ("" : Str).length = 0 := rfl
      rw [e0, Nat.mul_zero, Nat.add_zero] at hj
      have hd' : ws.length < 12 := by omega
      refine ⟨_, D, ws, rfl, rfl, .inl (SqL.of hw), by rw [e0]; omega, q _ _ (by omega) b2⟩
def stJ (i : Nat) : Stmt := (defBody sJoined).getD i (.Pass ⟨0, 0, 0, 0⟩)
theorem bodyJ : defBody sJoined = [stJ 0, stJ 1, stJ 2, stJ 3, stJ 4, stJ 5, stJ 6] := rfl
abbrev XJ (P : Program) (w : World) (K : PySem.W.Frag) (mg : Str → Option Value) (base : Heap) (f : Addr) (cdv : Value) (A : Around) (outer : List Env) (s : Shared) (H0 : Hp) (E : XK) : Cx := (cxOf CX0 P w K mg base nJ "_law_joined" (defScope sJoined) f cdv A outer s H0 E).nox
def some16 : List Str := ["a", "bc", "zzzzzzzz", ".", "..", "x", "a", "ninesigns", "...", "A", "a1", "", "a.", " ", "a b", "a\n"]
def ends3 : List Str := ["", "/", "//"]
/-- a list of texts that is not the state's -/
def LT (l : Addr) (H' : Hp) (p : Addr) (ws : List Str) : Prop := H' p = some (.lst (ws.map V.str)) ∧ p ≠ l
theorem LT.but {l p : Addr} {H H' : Hp} {ws : List Str} (h : LT l H p ws) (b : But l H H') : LT l H' p ws := ⟨b _ _ h.2 h.1, h.2⟩
theorem LT.same {l p : Addr} {H H' : Hp} {ws : List Str} (h : LT l H p ws) (b : Same H H') : LT l H' p ws := ⟨b _ _ h.1, h.2⟩
variable {cdv : Value} {A : Around} {outer : List Env} {s : Shared} {H0 H : Hp} {E : XK} {l : Addr} {k : Nat}
def J0 (H : Hp) (l : Addr) (σ : L2.St) (H' : Hp) : Prop := σ = [some (.ref l), none, none, none, none, none, none, none] ∧ Bs H l H'
def J1 (H : Hp) (l : Addr) (σ : L2.St) (H' : Hp) : Prop := ∃ p, σ = [some (.ref l), some (.ref p), none, none, none, none, none, none] ∧ Bs H l H' ∧ LT l H' p some16
def J2 (H : Hp) (l : Addr) (σ : L2.St) (H' : Hp) : Prop := ∃ p g, σ = [some (.ref l), some (.ref p), some (.bl g), none, none, none, none, none] ∧ Bs H l H' ∧ LT l H' p some16
def J3 (H : Hp) (l : Addr) (σ : L2.St) (H' : Hp) : Prop := ∃ p g r ws, σ = [some (.ref l), some (.ref p), some (.bl g), some (.ref r), none, none, none, none] ∧ Bs H l H' ∧ LT l H' r ws ∧ Short 9 ws ∧ ws.length < 8
def J4 (H : Hp) (l : Addr) (σ : L2.St) (H' : Hp) : Prop := ∃ p g r ws e, σ = [some (.ref l), some (.ref p), some (.bl g), some (.ref r), some (.ref e), none, none, none] ∧ Bs H l H' ∧ LT l H' r ws ∧ Short 9 ws ∧ ws.length < 8 ∧ LT l H' e ends3
def J5 (H : Hp) (l : Addr) (σ : L2.St) (H' : Hp) : Prop := ∃ p g r ws e h, σ = [some (.ref l), some (.ref p), some (.bl g), some (.ref r), some (.ref e), some (.str h), none, none] ∧ Bs H l H' ∧ LT l H' r ws ∧ Short 9 ws ∧ ws.length < 8 ∧ LT l H' e ends3 ∧ h.length ≤ 2
def J6 (H : Hp) (l : Addr) (σ : L2.St) (H' : Hp) : Prop := ∃ p g r ws e h t, σ = [some (.ref l), some (.ref p), some (.bl g), some (.ref r), some (.ref e), some (.str h), some (.str t), none] ∧ Bs H l H' ∧ LT l H' r ws ∧ Short 9 ws ∧ ws.length < 8 ∧ h.length ≤ 2 ∧ t.length ≤ 2
theorem hJ0 : Ho (XJ P w K mg base f cdv A outer s H0 E) (stJ 0) (J0 H l) (J1 H l) := by
  refine ⟨_, ps_set (i := 1) scJ.nd rfl (.inr rfl) (pe_lst (pa_cons pe_str (pa_cons pe_str (pa_cons pe_str (pa_cons pe_str (pa_cons pe_str (pa_cons pe_str (pa_cons pe_str (pa_cons pe_str (pa_cons pe_str (pa_cons pe_str (pa_cons pe_str (pa_cons pe_str (pa_cons pe_str (pa_cons pe_str (pa_cons pe_str (pa_cons pe_str pa_nil))))))))))))))))), ?_⟩
  rintro D σ H' ⟨rfl, b⟩ q
  obtain ⟨st, hl, _⟩ := b.st
  exact ⟨by show 16 ≤ sizeLine; decide, fun p hp => q _ _ ⟨p, rfl, b.same (same_new hp), upd_same, (ne_of_none hl hp).symm⟩⟩
theorem hJ1 (Dg : Cl P w K mg base CX0 (k + 1) "_law_digit" ["_law_state", "_law_base"] spDigit) (hr : Room (k + 1) (XJ P w K mg base f cdv A outer s H0 E).A) : Ho (XJ P w K mg base f cdv A outer s H0 E) (stJ 1) (J1 H l) (J2 H l) := by
  refine ⟨_, ps_set (i := 2) scJ.nd rfl (.inr rfl) (pe_cmpR op_gt (pe_cl Dg hr (Nat.le_refl _) (by rfl) pass0 (pa_cons (pv 0) (pa_cons pe_int pa_nil))) pe_int (nomark _)), ?_⟩
  rintro D σ H' ⟨p, rfl, b, hp⟩ q
  obtain ⟨st, hl, hst⟩ := b.st
  exact ⟨_, rfl, l, st, _, rfl, hl, hst, by decide, by decide, fun d st2 H2 hd hst2 hl2 bt2 => ⟨_, _, rfl, rfl, q _ _ ⟨p, _, rfl, ⟨⟨st2, hl2, hst2⟩, b.but.trans bt2⟩, hp.but bt2⟩⟩⟩
theorem hJ2 (B : Bi mg) (Dg : Cl P w K mg base CX0 (k + 1) "_law_digit" ["_law_state", "_law_base"] spDigit) (hr : Room (k + 1) (XJ P w K mg base f cdv A outer s H0 E).A) : Ho (XJ P w K mg base f cdv A outer s H0 E) (stJ 2) (J2 H l) (J3 H l) := by
  refine ⟨_, ps_setLc (i := 3) (own := [("_law_k", 7)]) (g := gName 7) (tt := tYes) (by rfl) scJ.nd rfl rfl (sw_true rfl rfl rfl (by decide +kernel)) (pi_range1 (by rfl) B.range (pa_cons (pe_cl Dg hr (Nat.le_refl _) (by rfl) pass0 (pa_cons (pv 0) (pa_cons pe_int pa_nil))) pa_nil)) (blkOk_by (own := [("_law_k", 7)]) (N := nJ) (sc := defScope sJoined) (by decide +kernel)) (fun _ _ _ _ _ => pg_name (i := 7) scJ.nd rfl (Or.inl rfl)) (fun _ _ _ _ _ => pts_nil)
    (fun _ _ _ _ _ => pe_ix (ixLK (K := K) rfl) (pv 1) (pe_cl Dg hr (Nat.le_refl _) (by rfl) pass0 (pa_cons (pv 0) (pa_cons (pe_ix (ixLK (K := K) rfl) (pe_lst (pa_cons pe_int (pa_cons pe_int pa_nil))) (pe_callTy call_int1 (by rfl) B.int (by decide +kernel) (pa_cons (pv 2) pa_nil)) (fun _ _ => rfl)) pa_nil))) (fun _ _ => rfl)), ?_⟩
  rintro D0 σ H' ⟨p, g, rfl, b, hp⟩ q
  obtain ⟨st, hl, hst⟩ := b.st
  refine ⟨_, rfl, l, st, _, rfl, hl, hst, by decide, by decide, fun d st1 H1 hd hst1 hl1 bt1 => ?_⟩
  have bs1 : Bs H l H1 := ⟨⟨st1, hl1, hst1⟩, b.but.trans bt1⟩
  refine ⟨d, rfl, by omega, by omega, fun D hD => lc_range (lo := 0) (n := (d : Int).toNat) (fun i H2 => Bs H1 l H2 ∧ ∃ ws : List Str, H2 D = some (.lst (ws.map V.str)) ∧ ws.length = i ∧ Short 9 ws) ⟨⟨⟨st1, (same_new hD) _ _ hl1, hst1⟩, Same.but l (same_new hD)⟩, [], upd_same, rfl, fun _ h => nomatch h⟩ ?_ ?_⟩
  · rintro i H2 hi ⟨b2, ws, hw, hlen, hsh⟩
    obtain ⟨st2, hl2, hst2⟩ := b2.st
    have nDl : D ≠ l := (ne_of_none hl1 hD).symm
    refine ⟨rfl, _, rfl, _, rfl, by show 2 ≤ sizeLine; decide, fun pp hpp => ?_⟩
    have s3 := same_new (o := HO.lst [.int 16, .int 7]) hpp
    refine ⟨_, rfl, .inr ⟨g, rfl, pp, _, _, _, rfl, rfl, SqL.of upd_same, pickAB g 16 7, l, st2, _, rfl, s3 _ _ hl2, hst2, by cases g <;> decide, by cases g <;> decide, fun j st3 H3 hj hst3 hl3 bt3 => ?_⟩⟩
    have hj' : j < 16 := by
      cases g with
      | true =>
        have hj2 : (j : Int) < 7 := hj
        omega
      | false =>
        have hj2 : (j : Int) < 16 := hj
        omega
    have hp3 : H3 p = some (.lst (some16.map V.str)) := bt3 _ _ hp.2 (s3 _ _ (b2.but _ _ hp.2 (bt1 _ _ hp.2 hp.1)))
    obtain ⟨z, hz⟩ : ∃ z, some16[j]? = some z := ⟨_, List.getElem?_eq_getElem (show j < some16.length from hj')⟩
    have hz9 : z.length ≤ 9 := by
      have h9 : ∀ y ∈ some16, y.length ≤ 9 := by decide +kernel
      exact h9 z (List.mem_of_getElem? hz)
    have hD3 := bt3 _ _ nDl (s3 _ _ hw)
    refine ⟨p, _, j, .str z, rfl, rfl, SqL.of hp3, atI_nat (by rw [List.getElem?_map, hz]; rfl), _, hD3, small1000 (by rw [List.length_map]; omega), ⟨⟨st3, by rw [upd_ne nDl.symm]; exact hl3, hst3⟩, ?_⟩, ws ++ [z], ?_, by rw [List.length_append, hlen]; rfl, ?_⟩
    · intro b0 o nb hb
      rw [upd_ne (ne_of_none hb hD)]
      exact bt3 b0 o nb (s3 _ _ (b2.but b0 o nb hb))
    · rw [upd_same, List.map_append]
      rfl
    · intro y hy
      rcases List.mem_append.mp hy with h | h
      · exact hsh y h
      · rw [List.mem_singleton] at h
        rw [h]
        exact hz9
  · rintro H2 ⟨b2, ws, hw, hlen, hsh⟩
    exact q _ _ ⟨p, g, D, ws, rfl, bs1.trans b2, ⟨hw, (ne_of_none hl1 hD).symm⟩, hsh, by omega⟩
theorem hJ3 : Ho (XJ P w K mg base f cdv A outer s H0 E) (stJ 3) (J3 H l) (J4 H l) := by
  refine ⟨_, ps_set (i := 4) scJ.nd rfl (.inl rfl) (pe_lst (pa_cons pe_str (pa_cons pe_str (pa_cons pe_str pa_nil)))), ?_⟩
  rintro D σ H' ⟨p, g, r, ws, rfl, b, hr, hs, hn⟩ q
  obtain ⟨st, hl, _⟩ := b.st
  exact ⟨by show 3 ≤ sizeLine; decide, fun e he => q _ _ ⟨p, g, r, ws, e, rfl, b.same (same_new he), hr.same (same_new he), hs, hn, upd_same, (ne_of_none hl he).symm⟩⟩
theorem hJ4 (B : Bi mg) (Dg : Cl P w K mg base CX0 (k + 1) "_law_digit" ["_law_state", "_law_base"] spDigit) (hr : Room (k + 1) (XJ P w K mg base f cdv A outer s H0 E).A) : Ho (XJ P w K mg base f cdv A outer s H0 E) (stJ 4) (J4 H l) (J5 H l) := by
  refine ⟨_, ps_set (i := 5) scJ.nd rfl (.inl rfl) (pe_ix ix_list (pv 4) (pe_cl Dg hr (Nat.le_refl _) (by rfl) pass0 (pa_cons (pv 0) (pa_cons (pe_ix ix_list (pe_lst (pa_cons pe_int (pa_cons pe_int pa_nil))) (pe_callTy call_int1 (by rfl) B.int (by decide +kernel) (pa_cons (pv 2) pa_nil)) (fun _ _ => rfl)) pa_nil))) (fun _ _ => rfl)), ?_⟩
  rintro D σ H' ⟨p, g, r, ws, e, rfl, b, hr, hs, hn, he⟩ q
  obtain ⟨st, hl, hst⟩ := b.st
  refine ⟨_, rfl, _, rfl, by show 2 ≤ sizeLine; decide, fun pp hpp => ?_⟩
  have s3 := same_new (o := HO.lst [.int 3, .int 2]) hpp
  refine ⟨_, rfl, .inr ⟨g, rfl, pp, _, _, _, rfl, rfl, SqL.of upd_same, pickAB g 3 2, l, st, _, rfl, s3 _ _ hl, hst, by cases g <;> decide, by cases g <;> decide, fun j st3 H3 hj hst3 hl3 bt3 => ?_⟩⟩
  have hj' : j < 3 := by
    cases g with
    | true =>
      have hj2 : (j : Int) < 2 := hj
      omega
    | false =>
      have hj2 : (j : Int) < 3 := hj
      omega
  have he3 := (he.same s3).but bt3
  obtain ⟨z, hz⟩ : ∃ z, ends3[j]? = some z := ⟨_, List.getElem?_eq_getElem (show j < ends3.length from hj')⟩
  have hz9 : z.length ≤ 2 := by
    have h9 : ∀ y ∈ ends3, y.length ≤ 2 := by decide +kernel
    exact h9 z (List.mem_of_getElem? hz)
  exact ⟨e, _, j, .str z, rfl, rfl, SqL.of he3.1, atI_nat (by rw [List.getElem?_map, hz]; rfl), q _ _ ⟨p, g, r, ws, e, z, rfl, ⟨⟨st3, hl3, hst3⟩, (b.same s3).but.trans bt3⟩, (hr.same s3).but bt3, hs, hn, he3, hz9⟩⟩
theorem hJ5 (B : Bi mg) (Dg : Cl P w K mg base CX0 (k + 1) "_law_digit" ["_law_state", "_law_base"] spDigit) (hr : Room (k + 1) (XJ P w K mg base f cdv A outer s H0 E).A) : Ho (XJ P w K mg base f cdv A outer s H0 E) (stJ 5) (J5 H l) (J6 H l) := by
  refine ⟨_, ps_set (i := 6) scJ.nd rfl (.inl rfl) (pe_ix ix_list (pv 4) (pe_ix ix_list (pe_lst (pa_cons pe_int (pa_cons pe_int (pa_cons pe_int (pa_cons pe_int (pa_cons pe_int pa_nil)))))) (pe_cl Dg hr (Nat.le_refl _) (by rfl) pass0 (pa_cons (pv 0) (pa_cons (pe_ix ix_list (pe_lst (pa_cons pe_int (pa_cons pe_int pa_nil))) (pe_callTy call_int1 (by rfl) B.int (by decide +kernel) (pa_cons (pv 2) pa_nil)) (fun _ _ => rfl)) pa_nil))) (fun _ _ => rfl)) (fun _ _ => rfl)), ?_⟩
  rintro D σ H' ⟨p, g, r, ws, e, h, rfl, b, hr, hs, hn, he, hh⟩ q
  obtain ⟨st, hl, hst⟩ := b.st
  refine ⟨_, rfl, by show 5 ≤ sizeLine; decide, fun p5 hp5 => ⟨_, rfl, by show 2 ≤ sizeLine; decide, fun pp hpp => ?_⟩⟩
  have s2 := same_new (o := HO.lst [.int 0, .int 0, .int 0, .int 1, .int 2]) hp5
  have s3 := same_new (o := HO.lst [.int 5, .int 3]) hpp
  have n5 : p5 ≠ l := (ne_of_none hl hp5).symm
  refine ⟨_, rfl, .inr ⟨g, rfl, pp, _, _, _, rfl, rfl, SqL.of upd_same, pickAB g 5 3, l, st, _, rfl, s3 _ _ (s2 _ _ hl), hst, by cases g <;> decide, by cases g <;> decide, fun j st3 H3 hj hst3 hl3 bt3 => ?_⟩⟩
  have hj' : j < 5 := by
    cases g with
    | true =>
      have hj2 : (j : Int) < 3 := hj
      omega
    | false =>
      have hj2 : (j : Int) < 5 := hj
      omega
  have he3 := ((he.same s2).same s3).but bt3
  have h53 : H3 p5 = some (.lst [.int 0, .int 0, .int 0, .int 1, .int 2]) := bt3 _ _ n5 (s3 _ _ upd_same)
  obtain ⟨i, hi, hi3⟩ : ∃ i : Nat, ([.int 0, .int 0, .int 0, .int 1, .int 2] : List V)[j]? = some (.int i) ∧ i < 3 := by
    match j, hj' with
    | 0, _ => exact ⟨0, rfl, by decide⟩
    | 1, _ => exact ⟨0, rfl, by decide⟩
    | 2, _ => exact ⟨0, rfl, by decide⟩
    | 3, _ => exact ⟨1, rfl, by decide⟩
    | 4, _ => exact ⟨2, rfl, by decide⟩
  obtain ⟨z, hz⟩ : ∃ z, ends3[i]? = some z := ⟨_, List.getElem?_eq_getElem (show i < ends3.length from hi3)⟩
  have hz9 : z.length ≤ 2 := by
    have h9 : ∀ y ∈ ends3, y.length ≤ 2 := by decide +kernel
    exact h9 z (List.mem_of_getElem? hz)
  exact ⟨p5, _, j, _, rfl, rfl, SqL.of h53, atI_nat hi, e, _, i, .str z, rfl, rfl, SqL.of he3.1, atI_nat (by rw [List.getElem?_map, hz]; rfl), q _ _ ⟨p, g, r, ws, e, h, z, rfl, ⟨⟨st3, hl3, hst3⟩, ((b.same s2).same s3).but.trans bt3⟩, ((hr.same s2).same s3).but bt3, hs, hn, hh, hz9⟩⟩
end
end Tx
set_option Elab.async false
set_option linter.all false
set_option maxRecDepth 100000
set_option maxHeartbeats 4000000
namespace Tx
open PySem PySem.Spec PyProof.Rows L2 Cm
/-! ### the law's own reading of a path is the program's -/
theorem pre47 (c : Nat) (r : List Nat) : TL.pre [47] (c :: r) = decide (c = 47) := by
  by_cases h : c = 47
  · subst h
    rfl
  · rw [decide_eq_false h]
    unfold TL.pre
    simpa using h
theorem spl_head : ∀ (l acc : List Nat), ∃ w rest, TL.spl [47] 0 acc l = (acc ++ w) :: rest
  | [], acc => ⟨[], [], by rw [TL.spl_nil, List.append_nil]⟩
  | c :: r, acc => by
    by_cases h : c = 47
    · exact ⟨[], _, by rw [TL.spl_hit (by rw [pre47, decide_eq_true h]), List.append_nil]⟩
    · obtain ⟨w, rest, e⟩ := spl_head r (acc ++ [c])
      refine ⟨c :: w, rest, ?_⟩
      rw [TL.spl_miss (by rw [pre47, decide_eq_false h]), e, List.append_assoc]
      rfl
theorem slashS : ("/" : Str) = SX.S [47] := rfl
theorem split_sl (a : List Nat) : Txt.split (SX.S a) "/" = (TL.spl [47] 0 [] a).map SX.S := by
  rw [slashS]
  exact SX.split_S (by simp) rfl
theorem eta (z : Str) : z = SX.S z.cps.toList := by
  cases z with
  | mk c => exact congrArg Str.mk (by simp)
theorem rp_hit (r : List Nat) : Txt.removeprefix (SX.S (47 :: r)) "/" = SX.S r := by
  rw [StrLaws.removeprefix_eq]
  have e1 : ("/" : Str).length = 1 := rfl
  have e2 : (SX.S (47 :: r)).length = r.length + 1 := SX.S_len _
  have h : (decide (0 + ("/" : Str).length ≤ (SX.S (47 :: r)).length) && Builtin.Str.subAt (SX.S (47 :: r)) "/" 0) = true := by
    rw [Bool.and_eq_true, StrLaws.subAt_eq]
    exact ⟨decide_eq_true (by rw [e1, e2]; omega), rfl⟩
  rw [if_pos h, e1, e2]
  show (⟨(List.take (r.length + 1 - 1) (List.drop 1 (47 :: r))).toArray⟩ : Str) = ⟨r.toArray⟩
  rw [List.drop_one, List.tail_cons, Nat.add_sub_cancel, List.take_length]
theorem rp_miss {a : List Nat} (h : ∀ r, a ≠ 47 :: r) : Txt.removeprefix (SX.S a) "/" = SX.S a := by
  rw [StrLaws.removeprefix_eq, if_neg]
  intro z
  rw [Bool.and_eq_true, StrLaws.subAt_eq] at z
  have z2 : (List.take 1 (List.drop 0 a) == [47]) = true := z.2
  rw [List.drop_zero] at z2
  cases a with
  | nil => cases z2
  | cons c r =>
    have z3 : (([c] : List Nat) == [47]) = true := z2
    have z4 : c = 47 := by simpa using z3
    exact h r (by rw [z4])
theorem fits_path (z : Str) : fitsB z = pathB z := by
  rw [eta z]
  generalize z.cps.toList = a
  have hw0 : wordB "" = false := by decide +kernel
  unfold fitsB pathB
  cases a with
  | nil => decide +kernel
  | cons c r =>
    have n0 : ¬ SX.S (c :: r) = "" := fun e => by
      have := congrArg Str.length e
      rw [SX.S_len] at this
      have z : (c :: r).length = 0 := this
      cases z
    rw [if_neg n0]
    by_cases h1 : SX.S (c :: r) = "/"
    · rw [if_pos h1, if_pos h1]
    · rw [if_neg h1, if_neg h1]
      congr 2
      unfold lawWords wordsOf
      rw [split_sl]
      by_cases hc : c = 47
      · subst hc
        have hr : r ≠ [] := fun e => h1 (by rw [e]; rfl)
        have e1 : TL.spl [47] 0 [] (47 :: r) = [] :: TL.spl [47] 0 [] r := TL.spl_hit (by rw [pre47]; rfl)
        obtain ⟨w, rest, e2⟩ := spl_head r []
        rw [rp_hit, split_sl, e1, List.map_cons]
        rw [if_pos ⟨by rw [e2]; simp, rfl⟩]
        rfl
      · rw [rp_miss (fun r' e => hc (by injection e)), split_sl]
        obtain ⟨w, rest, e2⟩ := spl_head r [c]
        have e1 : TL.spl [47] 0 [] (c :: r) = TL.spl [47] 0 ([] ++ [c]) r := TL.spl_miss (by rw [pre47, decide_eq_false hc])
        rw [if_neg]
        rintro ⟨_, h2⟩
        rw [e1, List.nil_append, e2] at h2
        have h3 : SX.S ([c] ++ w) = "" := Option.some.inj h2
        have := congrArg Str.length h3
        rw [SX.S_len] at this
        have z : ([c] ++ w).length = 0 := this
        rw [List.length_append] at z
        have z2 : [c].length = 1 := rfl
        omega
/-! ### the long ones -/
def rep5 : List Nat := (List.replicate 1200 [46, 46, 47, 97, 47]).flatten
theorem fold_app (c : Array Nat) : ∀ (k : Nat) (acc : Array Nat), ((List.replicate k c).foldl (· ++ ·) acc).toList = acc.toList ++ (List.replicate k c.toList).flatten
  | 0, acc => by simp
  | k + 1, acc => by
    rw [List.replicate_succ, List.foldl_cons, fold_app c k, List.replicate_succ, List.flatten_cons, Array.toList_append, List.append_assoc]
theorem mul5 : Txt.mul "../a/" 1200 = SX.S rep5 := by
  unfold Txt.mul
  rw [if_neg (by decide), if_neg (by decide +kernel)]
  refine TL.ext_tl ?_
  show ((List.replicate 1200 ("../a/" : Str).cps).foldl (· ++ ·) #[]).toList = rep5
  rw [fold_app]
  rfl
theorem len5 : rep5.length = 6000 := by decide +kernel
theorem long_words (a : List Nat) (h : ∀ r, a ≠ 47 :: r) (h0 : a ≠ []) : pathB (SX.S a) = ((TL.spl [47] 0 [] a).map fun b => wordB (SX.S b)).all id := by
  have n0 : ¬ SX.S a = "" := fun e => by
    have := congrArg Str.length e
    rw [SX.S_len] at this
    exact h0 (List.length_eq_zero_iff.mp this)
  have n1 : ¬ SX.S a = "/" := fun e => by
    have e2 : a = [47] := by
      have := congrArg (fun z : Str => z.cps.toList) e
      exact this
    exact h [] e2
  unfold pathB
  rw [if_neg n0, if_neg n1]
  unfold wordsOf
  rw [rp_miss h, split_sl, List.map_map]
  rfl
theorem rep5_cons : ∃ r, rep5 = 46 :: r := ⟨46 :: 47 :: 97 :: 47 :: (List.replicate 1199 [46, 46, 47, 97, 47]).flatten, rfl⟩
theorem long_yes : pathB (Txt.mul "../a/" 1200 ++ "..") = true := by
  have e : Txt.mul "../a/" 1200 ++ ".." = SX.S (rep5 ++ [46, 46]) := by
    rw [mul5]
    refine TL.ext_tl ?_
    show (rep5.toArray ++ ("..": Str).cps).toList = _
    rw [Array.toList_append]
    rfl
  rw [e]
  obtain ⟨r, hr⟩ := rep5_cons
  rw [long_words _ (fun r' z => by rw [hr] at z; cases z) (fun z => by rw [hr] at z; cases z)]
  decide +kernel
theorem long_no : pathB (Txt.mul "../a/" 1200) = false := by
  rw [mul5]
  obtain ⟨r, hr⟩ := rep5_cons
  rw [long_words _ (fun r' z => by rw [hr] at z; cases z) (fun z => by rw [hr] at z; cases z)]
  decide +kernel
theorem long_len : (Txt.mul "../a/" 1200).length = 6000 := by
  rw [mul5, SX.S_len, len5]
end Tx
set_option Elab.async false
set_option linter.all false
set_option maxRecDepth 100000
set_option maxHeartbeats 4000000
/-! A constructor's call inside a try: what flies out is told at the slots of the call. -/
namespace DcE
open PySem PySem.Spec PyProof.Rows L2
section
variable {X : Cx} {CX : CXT} {k : Nat} {f C : Addr} {fd : FuncData} {ps : List Str} {sp : Sp} {E : L2.St → XK} {x : Str} {p pos : Pos} {e : Expr} {es : List Expr} {t : TA}
def tMakeS (C : Addr) (sp : Sp) (E : L2.St → XK) (t : TA) : TE := fun σ H Q => t σ H fun vs H1 => ∀ x dx, H1 x = none → H1 dx = none → dx ≠ x → sp (.ref x :: vs) (upd (upd H1 dx (.own x)) x (.ins C dx [])) (fun v H2 => v = .non ∧ Q (.ref x) H2) (E σ)
theorem pe_makeS (M : Mk X.K C f) (F : FnOk X.prog X.w X.K X.mg X.base CX k f fd ps sp) (hr : Room (k + 1) X.A) (hg : Gl X x) (hm : X.mg x = some (.ref C)) (hb : Binds X.K fd ps []) (hx : ∀ σ, PassesAt CX X σ (E σ)) (ha : PA X (e :: es) t)
    (hdb : (x == ("__debug__" : Str)) = false := by decide) (he : starEach (e :: es) X.env = (false, eval e X.env) :: starEach es X.env := by rfl) (hpl : (backTo pos (starEach es X.env)).any (·.1) = false := by rfl) :
    PE X (.Call (.Name x p) (e :: es) [] pos) (tMakeS C sp E t) := by
  constructor
  intro pins s σ H Q I h
  apply wpAny_Call_Name_kw
  apply ld_glob I hg hm _ hdb
  refine PySem.W.callWith_K (h₀ := X.base) I.ok.mod.kin M.kp ?_ he hpl
  refine thn (ha.run pos pins s σ H _ I h) ?_
  rintro us s1 ⟨vs, H1, I1, r, q⟩
  refine ⟨I1.kIn, ?_⟩
  have q1 := q (s1.heap.objs.size + 1) s1.heap.objs.size (I1.hok.fresh (by omega)) (I1.hok.fresh (Nat.le_refl _)) (Nat.ne_of_lt (Nat.lt_succ_self _))
  have J := Inv.made (C := C) I1
  have rs : Vals (V.ref (s1.heap.objs.size + 1) :: vs) (Value.ref (s1.heap.objs.size + 1) :: us) := .cons rfl r
  have hl := rs.length.symm.trans (F.len _ _ _ _ q1)
  have b := hb _ (Value.ref (s1.heap.objs.size + 1) :: us) J.kIn (by rw [List.append_nil]; exact hl)
  rw [List.append_nil] at b
  refine wpAny_call (make_map (f := f) I1.kIn M.makes M.init (beq_iff_eq.mp M.fn) (codeAny_mono (F.run _ X.stack _ _ _ _ _ _ (E σ) (hr.make C us []) (J.env0.make C us []) b rs q1) ?_))
  rintro (e | fl) s' z
  · exact hx σ pins _ _ e s' J z
  · match fl, z with
    | .ret u, z =>
      obtain ⟨v, H', I3, rv, ev, q3⟩ := J.after z
      subst ev
      exact ⟨rv, V.ref (s1.heap.objs.size + 1), H', I3, rfl, q3⟩
end
end DcE
set_option Elab.async false
set_option linter.all false
set_option maxRecDepth 100000
set_option maxHeartbeats 8000000
namespace Tx
open PySem PySem.Spec PyProof.Rows L2 Cm
section
variable {P : Program} {w : World} {K : PySem.W.Frag} {mg : Str → Option Value} {base : Heap} {f C CT : Addr} {fd : FuncData} {cdv : Value} {A : Around} {outer : List Env} {s : Shared} {H0 H : Hp} {E : XK} {l : Addr} {k : Nat}
theorem hJ6 (B : Bi mg) (Dg : Cl P w K mg base CX0 (k + 1) "_law_digit" ["_law_state", "_law_base"] spDigit) (hr : Room (k + 1) (XJ P w K mg base f cdv A outer s H0 E).A) (R : VK) (hR : ∀ z H', z.length ≤ 1000 → Bs H l H' → R (.str z) H') : HoR (XJ P w K mg base f cdv A outer s H0 E) [stJ 6] (J6 H l) R := by
  refine ⟨_, pss_one (ps_ret (pe_op op_add_str (pe_op op_add_str (pv 5) (pe_join (pe_ix ix_list (pe_lst (pa_cons pe_str (pa_cons pe_str (pa_cons pe_str (pa_cons pe_str pa_nil))))) (pe_cl Dg hr (Nat.le_refl _) (by rfl) pass0 (pa_cons (pv 0) (pa_cons (pe_ix ix_list (pe_lst (pa_cons pe_int (pa_cons pe_int pa_nil))) (pe_callTy call_int1 (by rfl) B.int (by decide +kernel) (pa_cons (pv 2) pa_nil)) (fun _ _ => rfl)) pa_nil))) (fun _ _ => rfl)) (pv 3))) (pv 6))), ?_⟩
  rintro D σ H' ⟨p, g, r, ws, e, h, t, rfl, b, hr, hs, hn, hh, ht⟩ q
  obtain ⟨st, hl, hst⟩ := b.st
  refine ⟨_, rfl, by show 4 ≤ sizeLine; decide, fun p5 hp5 => ⟨_, rfl, by show 2 ≤ sizeLine; decide, fun pp hpp => ?_⟩⟩
  have s2 := same_new (o := HO.lst ((["/", "/", "/", "//"] : List Str).map V.str)) hp5
  have s3 := same_new (o := HO.lst [.int 4, .int 3]) hpp
  have n5 : p5 ≠ l := (ne_of_none hl hp5).symm
  refine ⟨_, rfl, .inr ⟨g, rfl, pp, _, _, _, rfl, rfl, SqL.of upd_same, pickAB g 4 3, l, st, _, rfl, s3 _ _ (s2 _ _ hl), hst, by cases g <;> decide, by cases g <;> decide, fun j st3 H3 hj hst3 hl3 bt3 => ?_⟩⟩
  have hj' : j < 4 := by
    cases g with
    | true =>
      have hj2 : (j : Int) < 3 := hj
      omega
    | false =>
      have hj2 : (j : Int) < 4 := hj
      omega
  have hr3 := ((hr.same s2).same s3).but bt3
  have h53 : H3 p5 = some (.lst ((["/", "/", "/", "//"] : List Str).map V.str)) := bt3 _ _ n5 (s3 _ _ upd_same)
  obtain ⟨z, hz⟩ : ∃ z, (["/", "/", "/", "//"] : List Str)[j]? = some z := ⟨_, List.getElem?_eq_getElem hj'⟩
  have hz9 : z.length ≤ 2 := by
    have h9 : ∀ y ∈ (["/", "/", "/", "//"] : List Str), y.length ≤ 2 := by decide +kernel
    exact h9 z (List.mem_of_getElem? hz)
  have h1 := short_sum hs
  have h2 := join_len z ws
  have h3 : ws.length * z.length ≤ 8 * 2 := Nat.mul_le_mul (by omega) hz9
  have h4 : ws.length * 9 ≤ 8 * 9 := Nat.mul_le_mul (by omega) (Nat.le_refl _)
  have la : ∀ a b : Str, (a ++ b).length = a.length + b.length := fun a b => Array.size_append
  refine ⟨p5, _, j, .str z, rfl, rfl, SqL.of h53, atI_nat (by rw [List.getElem?_map, hz]; rfl), ⟨_, rfl⟩, _, rfl, z, r, ws, rfl, rfl, .inl (SqL.of hr3.1), by omega, h, _, rfl, rfl, Nat.le_of_lt (small1000 (by omega)), _, rfl, _, t, rfl, rfl, Nat.le_of_lt (small1000 (by rw [la]; omega)), q _ _ (hR _ _ (by rw [la, la]; omega) ⟨⟨st3, hl3, hst3⟩, ((b.same s2).same s3).but.trans bt3⟩)⟩
theorem ok_joined (F : Fun K "_law_joined" "_law_joined" sJoined f fd) (B : Bi mg) (Dg : Cl P w K mg base CX0 (k + 1) "_law_digit" ["_law_state", "_law_base"] spDigit) : FnOk P w K mg base CX0 (k + 2) f fd ["_law_state"] spText := by
  refine F.ok scJ (fun vs H Q E h => ?_) (fun cdv A outer s H vs Q E hr h => ?_)
  · obtain ⟨x, rfl, _⟩ := h
    rfl
  · obtain ⟨l, rfl, bs, q⟩ := h
    rw [bodyJ]
    obtain ⟨t, ht, hq⟩ := HoR.cons (hJ0 (H := H) (l := l) (H0 := H) (E := E) (s := s) (A := A) (outer := outer) (cdv := cdv) (f := f)) (HoR.cons (hJ1 Dg hr) (HoR.cons (hJ2 B Dg hr) (HoR.cons hJ3 (HoR.cons (hJ4 B Dg hr) (HoR.cons (hJ5 B Dg hr) (hJ6 B Dg hr Q q))))))
    exact ⟨t, ht, hq _ _ _ ⟨rfl, bs⟩ fun _ _ h => h⟩
end
/-! ### the tree with one link -/
def ab (z : Str) : Nd := .dir [("a", .dir [("b", .lnk z)])]
theorem sort1 (p : Str × Nd) : sortK [p] = [p] := by
  unfold sortK
  simp
theorem nv_ab (z : Str) : nv 9 (ab z) 0 = if pathB z then some (ab z, 3) else none := by
  have ea : nameB "a" = true := by decide +kernel
  have eb : nameB "b" = true := by decide +kernel
  have e2 : ∀ n, n + 1 ≤ 61 → nv 7 (.lnk z) n = if pathB z then some (.lnk z, n + 1) else none := fun n h => by
    rw [nv_succ, if_neg (by omega)]
  have e1 : nv 8 (.dir [("b", .lnk z)]) 1 = if pathB z then some (.dir [("b", .lnk z)], 3) else none := by
    rw [nv_succ, if_neg (by omega)]
    dsimp only
    rw [sort1, nvs_one, e2 2 (by omega), if_pos (by simp [eb])]
    cases pathB z <;> rfl
  unfold ab
  rw [nv_succ, if_neg (by omega)]
  dsimp only
  rw [sort1, nvs_one, e1, if_pos (by simp [ea])]
  cases pathB z <;> rfl
theorem sub_ab (z : Str) : sub (ab z) ["a", "b"] = some (.lnk z) := by
  simp [ab, sub, kid, kidL]
end Tx
set_option Elab.async false
set_option linter.all false
set_option maxRecDepth 100000
set_option maxHeartbeats 8000000
namespace Tx
open PySem PySem.Spec PyProof.Rows L2 Cm
theorem scK : FnScope ["_law_text", "_law_fits_here", "_law_tree"] ["_law_text", "_law_fits_here"] (defScope sLink) := ⟨rfl, rfl, rfl, by decide +kernel, rfl, by decide +kernel, by decide +kernel⟩
def spLink : Sp := fun vs H Q _ => ∃ z, vs = [.str z, .bl (pathB z)] ∧ z.length ≤ 100000 ∧ ∀ H', Same H H' → Q (.bl true) H'
/-- a Tree is made -/
structure TrM (P : Program) (w : World) (K : PySem.W.Frag) (mg : Str → Option Value) (base : Heap) (CT C : Addr) : Prop where
  tr : Tr K mg CT
  mak : ∃ f fd, Mk K CT f ∧ FnOk P w K mg base (L2.CX P w) 13 f fd ["self", "top"] (spTree K CT C) ∧ Binds K fd ["self", "top"] []
  kind : ∃ f fd, Meth K CT "kind" f ∧ FnOk P w K mg base CX0 2 f fd ["self", "node"] (spKind CT) ∧ Binds K fd ["self", "node"] []
  value : ∃ f fd, Meth K CT "value" f ∧ FnOk P w K mg base CX0 2 f fd ["self", "node"] (spValue CT) ∧ Binds K fd ["self", "node"] []
section
variable {P : Program} {w : World} {K : PySem.W.Frag} {mg : Str → Option Value} {base : Heap} {f C CT : Addr} {fd : FuncData}
theorem ok_link (F : Fun K "_law_link_right" "_law_link_right" sLink f fd) (B : Bi mg) (Nt : No K mg C) (T : TrM P w K mg base CT C) : FnOk P w K mg base CX0 16 f fd ["_law_text", "_law_fits_here"] spLink := by
  obtain ⟨fI, fdI, MI, FI, bI⟩ := T.mak
  obtain ⟨fK, fdK, MK, FK, bK⟩ := T.kind
  obtain ⟨fV, fdV, MV, FV, bV⟩ := T.value
  refine F.ok scK (fun vs H Q E h => ?_) (fun cdv A outer s H vs Q E hr h => ?_)
  · obtain ⟨x, rfl, _⟩ := h
    rfl
  · obtain ⟨z, rfl, hz, q⟩ := h
    have hr2 : Room 2 (A.deeper (envOfC "_law_link_right" (defScope sLink) s.heap.objs.size f cdv)) := hr.mono (by decide)
    have hr14 : Room 14 (A.deeper (envOfC "_law_link_right" (defScope sLink) s.heap.objs.size f cdv)) := hr.mono (by decide)
    refine ⟨_, pss_cons (ps_try_only (tb := fun W => tAsg (DcE.tMakeS CT (spTree K CT C) (WE W) (tCons (tDisp [(tC (.str "a"), tDisp [(tC (.str "b"), tVar 0)])]) tNil)) (gName 2)) (ts := fun _ _ _ => tRet (tNotV (tVar 1))) (Wout := fun _ _ _ _ => False) rfl rfl ⟨rfl, by decide, Or.inl Nt.g⟩ takes0
        (fun W pn xe tk _ => pss_one (ps_set (i := 2) scK.nd rfl (.inl rfl) (DcE.pe_makeS (E := WE W) MI FI hr14 (by rfl) T.tr.mgC bI (fun σ => passAt tk σ) (pa_cons (pe_disp (pps_cons pe_str (pe_disp (pps_cons pe_str (pv 0) pps_nil) rfl rfl (by simp) (by decide)) pps_nil) rfl rfl (by simp) (by decide)) pa_nil))))
        (fun a oe cls d pn _ _ => pss_one (ps_ret (pe_not (pv 1)))))
      (pss_one (ps_ret (pe_and (pv 1) (pe_and (pe_cmpR op_eq (pe_meth (pv 2) T.tr.cl MK FK hr2 bK .nil pass0 (pa_cons (pe_tup (pa_cons pe_str (pa_cons pe_str pa_nil))) pa_nil)) pe_str (nomark _)) (pe_one (pe_cmpR op_eq (pe_meth (pv 2) T.tr.cl MV FV hr2 bV .nil pass0 (pa_cons (pe_tup (pa_cons pe_str (pa_cons pe_str pa_nil))) pa_nil)) (pv 0) (nomark _))))))), ?_⟩
    intro p1 hp1 p2 hp2
    have s1 : Same H (upd H p1 (.dK [])) := same_new hp1
    have s2 : Same (upd H p1 (.dK [])) (upd (upd H p1 (.dK [])) p2 (.dK [])) := same_new hp2
    have n12 : p1 ≠ p2 := ne_of_none (show upd H p1 (.dK []) p1 = some _ from upd_same) hp2
    have hp2H : H p2 = none := s1.free hp2
    refine ⟨_, rfl, upd_same, [(Sum.inr "b", .str z)], rfl, by show 1 ≤ 15; decide, ?_⟩
    refine ⟨by rw [upd_ne n12, upd_ne n12]; exact upd_same, [(Sum.inr "a", .ref p2)], rfl, by show 1 ≤ 15; decide, ?_⟩
    obtain ⟨HF, eF⟩ : ∃ HF, HF = upd (upd (upd (upd H p1 (.dK [])) p2 (.dK [])) p2 (.dK (mergeK [] [(Sum.inr "b", .str z)]))) p1 (.dK (mergeK [] [(Sum.inr "a", .ref p2)])) := ⟨_, rfl⟩
    rw [← eF]
    have hF1 : HF p1 = some (.dK [(Sum.inr "a", .ref p2)]) := by rw [eF]; exact upd_same
    have hF2 : HF p2 = some (.dK [(Sum.inr "b", .str z)]) := by
      rw [eF, upd_ne n12.symm]
      exact upd_same
    have sF : Same H HF := fun b o h => by
      rw [eF, upd_ne (ne_of_none h hp1), upd_ne (ne_of_none h hp2H)]
      exact s2 _ _ (s1 _ _ h)
    have hN : NdAt HF (.ref p1) (ab z) := by
      refine .dir hF1 rfl (by simp) (by show 1 < 64; decide) (fun p hp => by rw [List.mem_singleton.mp hp]; show ("a" : Str).length ≤ 100000; decide +kernel) fun i kv p e1 e2 => ?_
      match i, e1, e2 with
      | 0, e1, e2 =>
        cases e1
        cases e2
        refine .dir hF2 rfl (by simp) (by show 1 < 64; decide) (fun p hp => by rw [List.mem_singleton.mp hp]; show ("b" : Str).length ≤ 100000; decide +kernel) fun i kv p e1 e2 => ?_
        match i, e1, e2 with
        | 0, e1, e2 =>
          cases e1
          cases e2
          exact .lnk z hz
    intro x dx hx hdx hne
    have hxd : upd HF dx (.own x) x = none := by rw [upd_ne hne.symm]; exact hx
    have sG : Same HF (upd (upd HF dx (.own x)) x (.ins CT dx [])) := fun b o h => by
      rw [upd_ne (ne_of_none h hx), upd_ne (ne_of_none h hdx)]
      exact h
    refine ⟨x, dx, .ref p1, rfl, upd_same, .inl ⟨_, hN.mono (DKeep.same sG), ?_, ?_⟩⟩
    · intro t' n e H' N kvs h1 h2 h3 hb
      have e' : nv 9 (ab z) 0 = some (t', n) := e
      rw [nv_ab] at e'
      have hpz : pathB z = true := by
        cases c : pathB z with
        | true => rfl
        | false =>
          rw [c] at e'
          cases e'
      rw [hpz] at e'
      cases e'
      have hH' : Same H H' := fun b o h => hb b o (ne_of_none (sF _ _ h) hx) (sG _ _ (sF _ _ h))
      have hT : TrAt H' CT x (ab z) := ⟨dx, N, kvs, h1, (newIn_some h2).2, h3.mono (newIn_keep _ _)⟩
      refine ⟨rfl, ?_⟩
      rw [hpz]
      refine ⟨_, rfl, true, rfl, iteT ?_⟩
      refine ⟨_, rfl, x, dx, fl N, rfl, h1, fl_no N (by decide +kernel), by show 2 ≤ sizeLine; decide, fun pt hpt => ?_⟩
      have s3 := same_new (o := HO.tup [.str "a", .str "b"]) hpt
      refine ⟨x, pt, ab z, ["a", "b"], rfl, hT.same s3, upd_same, by decide, fun H3 s4 => ?_⟩
      rw [sub_ab]
      refine ⟨rfl, _, rfl, iteT ?_⟩
      refine ⟨_, rfl, x, dx, fl N, rfl, s4 _ _ (s3 _ _ h1), fl_no N (by decide +kernel), by show 2 ≤ sizeLine; decide, fun pt2 hpt2 => ?_⟩
      have s5 := same_new (o := HO.tup [.str "a", .str "b"]) hpt2
      refine ⟨x, pt2, ab z, ["a", "b"], rfl, ((hT.same s3).same s4).same s5, upd_same, by decide, fun H4 s6 => ?_⟩
      rw [sub_ab]
      refine ⟨_, rfl, rfl, ?_⟩
      rw [decide_eq_true (show valueV (some (.lnk z)) = V.str z from rfl)]
      exact q _ (((hH'.trans s3).trans s4).trans (s5.trans s6))
    · intro e H' hb
      have e' : nv 9 (ab z) 0 = none := e
      rw [nv_ab] at e'
      have hpz : pathB z = false := by
        cases c : pathB z with
        | false => rfl
        | true =>
          rw [c] at e'
          cases e'
      rw [hpz]
      refine ⟨true, Nt.e, fun _ a ha => ?_, fun c => nomatch c⟩
      have hH' : Same H H' := fun b o h => hb b o (ne_of_none (sF _ _ h) hx) (sG _ _ (sF _ _ h))
      exact ⟨_, rfl, _, rfl, q _ hH'⟩
end
end Tx
set_option Elab.async false
set_option linter.all false
set_option maxRecDepth 100000
set_option maxHeartbeats 8000000
namespace Tx
open PySem PySem.Spec PyProof.Rows L2 Cm
/-- text * n -/
theorem op_mul_str {X : Cx} : OpR X (binaryOp .Mult) (fun x y H Q => ∃ a n, x = .str a ∧ y = .int n ∧ MulOk a n ∧ Q (.str (Txt.mul a n)) H) := by
  intro pins s σ H x y v u Q I rx ry h
  obtain ⟨a, n, rfl, rfl, ok, q⟩ := h
  obtain ⟨t, rfl⟩ := rx
  obtain ⟨t', rfl⟩ := ry
  exact SB.mul ok fun t2 tk => ⟨.str (Txt.mul a n), H, I.tok _, ⟨_, rfl⟩, q⟩
abbrev nL : List Str := ["_law_script", "_law_cell", "_law_state", "_law_turn", "_law_odd", "_law_text", "_law_told", "_law_due", "_law_value"]
theorem scLaw : FnScope nL ["_law_script"] (defScope sLaw) := ⟨rfl, rfl, rfl, by decide +kernel, rfl, by decide +kernel, by decide +kernel⟩
def stL (i : Nat) : Stmt := (defBody sLaw).getD i (.Pass ⟨0, 0, 0, 0⟩)
theorem bodyLaw : defBody sLaw = [stL 0, stL 1] := rfl
def stT (i : Nat) : Stmt := foB (stL 0) i
def stU (i : Nat) : Stmt := foB (stT 1) i
structure Defs (P : Program) (w : World) (K : PySem.W.Frag) (mg : Str → Option Value) (base : Heap) : Prop where
  cell : Cl P w K mg base CX0 1 "_law_cell_at" ["_law_script", "_law_k"] (spCell K)
  joined : Cl P w K mg base CX0 2 "_law_joined" ["_law_state"] spText
  drawn : Cl P w K mg base CX0 2 "_law_drawn" ["_law_state"] spText
  path : Cl P w K mg base CX0 2 "is_path" ["thing"] (spPath K)
  fits : Cl P w K mg base CX0 2 "_law_fits" ["_law_text"] spFits
  link : Cl P w K mg base CX0 16 "_law_link_right" ["_law_text", "_law_fits_here"] spLink
abbrev XL (P : Program) (w : World) (K : PySem.W.Frag) (mg : Str → Option Value) (base : Heap) (f : Addr) (cdv : Value) (A : Around) (outer : List Env) (s : Shared) (H0 : Hp) (E : XK) : Cx := (cxOf CX0 P w K mg base nL "law" (defScope sLaw) f cdv A outer s H0 E).nox
/-- the slots: the script's list, the state's list; the heap: all that was at the turn's start, and the state -/
def T1 (H : Hp) (a l : Addr) (σ : L2.St) (H' : Hp) : Prop := ∃ c t o x d u v, σ = [some (.ref a), c, some (.ref l), t, o, x, d, u, v] ∧ Bs H l H'
def T0 (H : Hp) (a : Addr) (σ : L2.St) (H' : Hp) : Prop := ∃ c l t o x d u v, σ = [some (.ref a), c, l, t, o, x, d, u, v] ∧ Same H H'
section
variable {P : Program} {w : World} {K : PySem.W.Frag} {mg : Str → Option Value} {base : Heap} {f : Addr} {cdv : Value} {A : Around} {outer : List Env} {s : Shared} {H0 H : Hp} {E : XK} {a l : Addr}
/-- by what holds ahead and behind, for every heap at the start -/
def HoG (X : Cx) (st : Stmt) (p q : Hp → L2.St → Hp → Prop) : Prop := ∃ t, PS X st t ∧ ∀ (G : Hp) (D : Ends) σ H, p G σ H → (∀ σ' H', q G σ' H' → D.nx σ' H') → t D σ H
/-- one turn of the inner loop -/
theorem hU (B : Bi mg) (D : Defs P w K mg base) (hr : Room 16 (XL P w K mg base f cdv A outer s H0 E).A) : ∃ tb, PSs (XL P w K mg base f cdv A outer s H0 E) [stU 0, stU 1, stU 2] tb ∧
    ∀ (E0 : Ends) {H : Hp} {l : Addr} {c o x d u v : Option V} {i : Nat} {H1 : Hp}, Bs H l H1 → (∀ x d H2, Bs H l H2 → E0.nx [some (.ref a), c, some (.ref l), some (.int i), o, x, d, u, v] H2) → tb E0 [some (.ref a), c, some (.ref l), some (.int i), o, x, d, u, v] H1 := by
  refine ⟨_, pss_cons (ps_set (i := 5) scLaw.nd rfl (.inl rfl) (pe_ix ix_list (pe_lst (pa_cons (pe_cl D.joined hr (by decide) (by rfl) pass0 (pa_cons (pv 2) pa_nil)) (pa_cons (pe_cl D.drawn hr (by decide) (by rfl) pass0 (pa_cons (pv 2) pa_nil)) pa_nil))) (pe_op op_mod (pe_callTy call_int1 (by rfl) B.int (by decide +kernel) (pa_cons (pv 3) pa_nil)) pe_int) (fun _ _ => rfl)))
    (pss_cons (ps_set (i := 6) scLaw.nd rfl (.inl rfl) (pe_cl D.path hr (by decide) (by rfl) pass0 (pa_cons (pv 5) pa_nil)))
    (pss_one (ps_if (PW.pt (pw_or (pt_cmpR op_ne (pv 6) (pe_cl D.fits hr (by decide) (by rfl) pass0 (pa_cons (pv 5) pa_nil)) (nomark _)) (pw_or (pt_not (pt_val (pe_callB call_isi (by rfl) B.isin (by decide +kernel) (pa_cons (pv 6) (pa_cons (pe_bltn (v := .ty "bool") (by rfl) B.bool (by decide +kernel) rfl) pa_nil))))) (pw_or1 (pt_not (pt_val (pe_cl D.link hr (by decide) (by rfl) pass0 (pa_cons (pv 5) (pa_cons (pv 6) pa_nil))))))))) (pss_one (ps_ret pe_bl)) pss_nil))), ?_⟩
  intro E0 H l c o x d u v i H1 b q
  have selfB : ∀ {H H' : Hp}, Bs H l H' → Bs H' l H' := fun h => ⟨h.st, But.refl _ _⟩
  refine ⟨_, rfl, l, rfl, selfB b, fun z1 H2 hz1 b2 => ⟨_, rfl, l, rfl, selfB b2, fun z2 H3 hz2 b3 => ⟨by show 2 ≤ sizeLine; decide, fun p hp => ?_⟩⟩⟩
  have b4 : Bs H l (upd H3 p (.lst [.str z1, .str z2])) := ((b.trans b2).trans b3).same (same_new hp)
  refine ⟨_, rfl, .inl ⟨i, rfl, _, _, rfl, rfl, (by show (0 : Int) < 2; decide), ?_⟩⟩
  obtain ⟨z, hz, hz0⟩ : ∃ z : Str, atI [V.str z1, V.str z2] ((i : Int) % 2) = some (.str z) ∧ z.length ≤ 1000 := by
    rcases Int.emod_two_eq i with e | e
    · rw [e]
      exact ⟨z1, rfl, hz1⟩
    · rw [e]
      exact ⟨z2, rfl, hz2⟩
  have hz' : z.length ≤ 100000 := Nat.le_trans hz0 (by decide)
  refine ⟨p, _, _, .str z, rfl, rfl, SqL.of upd_same, hz, ?_⟩
  refine ⟨_, rfl, .str z, _, rfl, .str z hz', fun H5 s5 => ?_⟩
  refine ⟨_, rfl, _, rfl, z, rfl, hz', fun H6 s6 => ?_⟩
  rw [fits_path]
  refine ⟨rfl, _, rfl, iteNS rfl ?_⟩
  refine ⟨_, rfl, _, .ty "bool", _, _, true, rfl, .ty _, .base (.bl _), kit_ty (by decide +kernel), _, rfl, iteF ?_⟩
  refine ⟨_, rfl, _, rfl, z, rfl, hz', fun H7 s7 => ?_⟩
  refine ⟨_, rfl, iteF (q _ _ _ (((b4.same s5).same s6).same s7))⟩
/-- the state is new -/
def T1' (H : Hp) (a : Addr) (σ : L2.St) (H' : Hp) : Prop := ∃ c l t o x d u v st, σ = [some (.ref a), c, some (.ref l), t, o, x, d, u, v] ∧ H l = none ∧ Same H H' ∧ H' l = some (.lst st) ∧ StOk st
theorem hT0 : HoG (XL P w K mg base f cdv A outer s H0 E) (stT 0) (fun H σ H' => ∃ i l t o x d u v, σ = [some (.ref a), some (.int i), l, t, o, x, d, u, v] ∧ Same H H') (fun H => T1' H a) := by
  refine ⟨_, ps_set (i := 2) scLaw.nd rfl (.inl rfl) (pe_lst (pa_cons (pv 1) pa_nil)), ?_⟩
  rintro H E0 σ H1 ⟨i, l, t, o, x, d, u, v, rfl, sm⟩ q
  exact ⟨_, rfl, by show 1 ≤ sizeLine; decide, fun p hp => q _ _ ⟨_, p, t, o, x, d, u, v, _, rfl, sm.free hp, sm.trans (same_new hp), upd_same, .inl ⟨i, rfl⟩⟩⟩
/-- the inner loop -/
theorem hT1 (B : Bi mg) (D : Defs P w K mg base) (hr : Room 16 (XL P w K mg base f cdv A outer s H0 E).A) : HoG (XL P w K mg base f cdv A outer s H0 E) (stT 1) (fun H => T1' H a) (fun H => T0 H a) := by
  obtain ⟨tb, hb, rb⟩ := hU (a := a) (f := f) (cdv := cdv) (A := A) (outer := outer) (s := s) (H0 := H0) (E := E) B D hr
  refine ⟨_, ps_for PassesOwn.never rfl (pi_range1 (by rfl) B.range (pa_cons pe_int pa_nil)) (pg_name (i := 3) scLaw.nd rfl (Or.inl rfl)) hb, ?_⟩
  rintro H E0 σ H1 ⟨c, l, t, o, x, d, u, v, st, rfl, hn, sm, hl, hst⟩ q
  have b : Bs H1 l H1 := ⟨⟨st, hl, hst⟩, But.refl _ _⟩
  refine ⟨12, rfl, by decide, by decide, for_it walk_range (fun i σ H2 => T1 H1 a l σ H2) ⟨c, t, o, x, d, u, v, rfl, b⟩ (fun _ _ _ _ _ => True.intro) ?_ (fun σ H2 h => ?_)⟩
  · rintro i y σ H2 H3 hi ⟨c, t, o, x, d, u, v, rfl, b⟩ ⟨rfl, rfl⟩
    have e : ((0 : Int) + (i : Nat)) = (i : Nat) := Int.zero_add _
    show tb _ [some (.ref a), c, some (.ref l), some (.int (0 + (i : Nat))), o, x, d, u, v] _
    rw [e]
    exact rb _ b fun x d H4 b4 => ⟨c, _, o, x, d, u, v, rfl, b4⟩
  · obtain ⟨c, t, o, x, d, u, v, rfl, b⟩ := h
    exact q _ _ ⟨c, _, t, o, x, d, u, v, rfl, fun z y h => b.but z y (ne_of_none h hn) (sm z y h)⟩
/-- the long ones -/
theorem hT2 (D : Defs P w K mg base) (hr : Room 16 (XL P w K mg base f cdv A outer s H0 E).A) : HoG (XL P w K mg base f cdv A outer s H0 E) (stT 2) (fun H => T0 H a) (fun H => T0 H a) := by
  refine ⟨_, ps_if (PW.pt (pw_or (pt_not (pt_val (pe_cl D.path hr (by decide) (by rfl) pass0 (pa_cons (pe_op op_add_str (pe_op op_mul_str pe_str pe_int) pe_str) pa_nil)))) (pw_or1 (pt_val (pe_cl D.path hr (by decide) (by rfl) pass0 (pa_cons (pe_op op_mul_str pe_str pe_int) pa_nil)))))) (pss_one (ps_ret pe_bl)) pss_nil, ?_⟩
  rintro H E0 σ H1 ⟨c, l, t, o, x, d, u, v, rfl, sm⟩ q
  have mo : MulOk "../a/" 1200 := mulOk_of 5 1200 (by decide +kernel) (by decide) (by decide) (by decide) (by decide)
  have la : ∀ a b : Str, (a ++ b).length = a.length + b.length := fun a b => Array.size_append
  have l2 : ("..": Str).length = 2 := rfl
  refine ⟨_, _, rfl, rfl, mo, _, _, rfl, rfl, by rw [long_len, l2]; decide, _, _, rfl, .str _ (by rw [la, long_len, l2]; decide), fun H2 s2 => ?_⟩
  rw [long_yes]
  refine ⟨_, rfl, iteF ?_⟩
  refine ⟨_, _, rfl, rfl, mo, _, _, rfl, .str _ (by rw [long_len]; decide), fun H3 s3 => ?_⟩
  rw [long_no]
  exact ⟨_, rfl, iteF (q _ _ ⟨c, l, t, o, x, d, u, v, rfl, (sm.trans s2).trans s3⟩)⟩
/-- what is no text -/
def Odd (K : PySem.W.Frag) (H : Hp) (v : V) : Prop := ∃ n, TyX K H v (.type n) ∧ kitB n "str" = some false
def OddL (H : Hp) (v : V) : Prop := v = .non ∨ (∃ i, v = .int i) ∨ (∃ b, v = .bl b) ∨ ∃ p, v = .ref p ∧ ((∃ xs, H p = some (.lst xs)) ∨ (∃ xs, H p = some (.tup xs)) ∨ ∃ xs, H p = some (.dK xs))
theorem OddL.same {H H' : Hp} {v : V} (h : OddL H v) (s : Same H H') : OddL H' v := by
  rcases h with h | h | h | ⟨p, e, ⟨xs, h⟩ | ⟨xs, h⟩ | ⟨xs, h⟩⟩
  · exact .inl h
  · exact .inr (.inl h)
  · exact .inr (.inr (.inl h))
  · exact .inr (.inr (.inr ⟨p, e, .inl ⟨xs, s _ _ h⟩⟩))
  · exact .inr (.inr (.inr ⟨p, e, .inr (.inl ⟨xs, s _ _ h⟩)⟩))
  · exact .inr (.inr (.inr ⟨p, e, .inr (.inr ⟨xs, s _ _ h⟩)⟩))
theorem OddL.odd {K : PySem.W.Frag} {H : Hp} {v : V} (h : OddL H v) : Odd K H v := by
  rcases h with rfl | ⟨i, rfl⟩ | ⟨b, rfl⟩ | ⟨p, rfl, ⟨xs, h⟩ | ⟨xs, h⟩ | ⟨xs, h⟩⟩
  · exact ⟨_, .base .non, by decide +kernel⟩
  · exact ⟨_, .base (.int i), by decide +kernel⟩
  · exact ⟨_, .base (.bl b), by decide +kernel⟩
  · exact ⟨_, .base (.lst h), by decide +kernel⟩
  · exact ⟨_, .base (.tup h), by decide +kernel⟩
  · exact ⟨_, .base (.dK h), by decide +kernel⟩
def T3 (H : Hp) (a : Addr) (σ : L2.St) (H' : Hp) : Prop := ∃ c l t p x d u v vs, σ = [some (.ref a), c, l, t, some (.ref p), x, d, u, v] ∧ Same H H' ∧ H' p = some (.lst vs) ∧ vs.length = 8 ∧ ∀ y ∈ vs, OddL H' y
theorem hT3 : HoG (XL P w K mg base f cdv A outer s H0 E) (stT 3) (fun H => T0 H a) (fun H => T3 H a) := by
  refine ⟨_, ps_set (i := 4) scLaw.nd rfl (.inl rfl) (pe_lst (pa_cons pe_non (pa_cons pe_int (pa_cons pe_bl (pa_cons pe_int (pa_cons (pe_lst (pa_cons pe_str pa_nil)) (pa_cons (pe_tup (pa_cons pe_str pa_nil)) (pa_cons pe_dnewK (pa_cons (pe_disp (pps_cons pe_str pe_int pps_nil) rfl rfl (by simp) (by decide)) pa_nil))))))))), ?_⟩
  rintro H E0 σ H1 ⟨c, l, t, o, x, d, u, v, rfl, sm⟩ q
  refine ⟨by show 1 ≤ sizeLine; decide, fun p1 h1 => ⟨by show 1 ≤ sizeLine; decide, fun p2 h2 => fun p3 h3 => fun p4 h4 => ?_⟩⟩
  have s1 := same_new (o := HO.lst [.str "a"]) h1
  have s2 := same_new (o := HO.tup [.str "a"]) h2
  have s3 := same_new (o := HO.dK []) h3
  have s4 := same_new (o := HO.dK []) h4
  refine ⟨upd_same, [(Sum.inr "a", .int 1)], rfl, by show 1 ≤ 15; decide, by show 8 ≤ sizeLine; decide, fun p5 h5 => ?_⟩
  have f4 : (upd (upd (upd H1 p1 (.lst [.str "a"])) p2 (.tup [.str "a"])) p3 (.dK [])) p4 = none := h4
  obtain ⟨HF, eF⟩ : ∃ HF, HF = upd (upd (upd (upd (upd H1 p1 (.lst [.str "a"])) p2 (.tup [.str "a"])) p3 (.dK [])) p4 (.dK [])) p4 (.dK (mergeK [] [(Sum.inr "a", .int 1)])) := ⟨_, rfl⟩
  rw [← eF] at h5 ⊢
  have sF : Same (upd (upd (upd H1 p1 (.lst [.str "a"])) p2 (.tup [.str "a"])) p3 (.dK [])) HF := by
    rw [eF]
    exact same_mut f4 s4
  have s5 := same_new (o := HO.lst [.non, .int 5, .bl true, .int 0, .ref p1, .ref p2, .ref p3, .ref p4]) h5
  refine q _ _ ⟨c, l, t, p5, x, d, u, v, _, rfl, (((sm.trans s1).trans (s2.trans s3)).trans sF).trans s5, upd_same, rfl, fun y hy => ?_⟩
  have m1 := s5 _ _ (sF _ _ (s3 _ _ (s2 _ _ (upd_same (H := H1) (a := p1) (o := .lst [.str "a"])))))
  have m2 := s5 _ _ (sF _ _ (s3 _ _ (upd_same (H := upd H1 p1 (.lst [.str "a"])) (a := p2) (o := .tup [.str "a"]))))
  have m3 := s5 _ _ (sF _ _ (upd_same (H := upd (upd H1 p1 (.lst [.str "a"])) p2 (.tup [.str "a"])) (a := p3) (o := .dK [])))
  have m4 : HF p4 = some (.dK (mergeK [] [(Sum.inr "a", .int 1)])) := by rw [eF]; exact upd_same
  simp only [List.mem_cons, List.not_mem_nil, or_false] at hy
  rcases hy with rfl | rfl | rfl | rfl | rfl | rfl | rfl | rfl
  · exact .inl rfl
  · exact .inr (.inl ⟨_, rfl⟩)
  · exact .inr (.inr (.inl ⟨_, rfl⟩))
  · exact .inr (.inl ⟨_, rfl⟩)
  · exact .inr (.inr (.inr ⟨_, rfl, .inl ⟨_, m1⟩⟩))
  · exact .inr (.inr (.inr ⟨_, rfl, .inr (.inl ⟨_, m2⟩)⟩))
  · exact .inr (.inr (.inr ⟨_, rfl, .inr (.inr ⟨_, m3⟩)⟩))
  · exact .inr (.inr (.inr ⟨_, rfl, .inr (.inr ⟨_, s5 _ _ m4⟩)⟩))
theorem hT4 (B : Bi mg) (D : Defs P w K mg base) (hr : Room 16 (XL P w K mg base f cdv A outer s H0 E).A) : HoG (XL P w K mg base f cdv A outer s H0 E) (stT 4) (fun H => T3 H a) (fun H => T0 H a) := by
  refine ⟨_, ps_if (pt_val (pe_callB (cr_any rfl) (by rfl) B.any (by decide +kernel) (pa_cons (pe_lc (own := [("_law_value", 8)]) (g := gName 8) (tt := tYes) (by rfl) scLaw.nd (pi_list (pv 4)) (blkOk_by (own := [("_law_value", 8)]) (N := nL) (sc := defScope sLaw) (by decide +kernel)) (fun _ _ _ _ _ => pg_name (i := 8) scLaw.nd rfl (Or.inl rfl)) (fun _ _ _ _ _ => pts_nil)
    (fun _ _ _ _ _ => pe_cmpR op_notBl (pe_cl D.path hr (by decide) (by rfl) pass0 (pa_cons (pv 8) pa_nil)) pe_bl (nomark _))) pa_nil))) (pss_one (ps_ret pe_bl)) pss_nil, ?_⟩
  rintro H E0 σ H1 ⟨c, l, t, p, x, d, u, v, vs, rfl, sm, hp, hl, ho⟩ q
  refine ⟨_, rfl, p, rfl, ⟨_, SqL.of hp⟩, fun L hL => lc_list (K := K) (a := p) (xs := vs) (fun i H2 => H2 L = some (.lst ((List.replicate i false).map V.bl)) ∧ Same H1 H2) ⟨upd_same, same_new hL⟩ (fun i H2 _ h => SqL.of (h.2 _ _ hp)) ?_ ?_⟩
  · rintro i y H2 hy ⟨h2, s2⟩
    obtain ⟨n, ty, hn⟩ := ((ho y (List.mem_of_getElem? hy)).same s2).odd (K := K)
    have hi := (List.getElem?_eq_some_iff.mp hy).1
    refine ⟨rfl, _, rfl, y, _, rfl, .other ty hn, fun H3 s3 => ⟨_, _, rfl, rfl, _, s3 _ _ h2, small1000 (by rw [List.length_map, List.length_replicate]; omega), ?_, same_mut hL (s2.trans s3)⟩⟩
    rw [upd_same, List.replicate_succ', List.map_append]
    rfl
  · rintro H2 ⟨h2, s2⟩
    rw [hl] at h2
    exact ⟨L, List.replicate 8 false, rfl, SqL.of h2, _, rfl, iteF (q _ _ ⟨c, l, t, _, x, d, u, v, rfl, sm.trans s2⟩)⟩
end
end Tx
set_option Elab.async false
set_option linter.all false
set_option maxRecDepth 100000
set_option maxHeartbeats 8000000
namespace Tx
open PySem PySem.Spec PyProof.Rows L2 Cm
def due6 : List (Str × Bool) := [("", false), ("/", true), ("//", false), (".", true), ("/..", true), ("a/", false)]
theorem due_path : ∀ p ∈ due6, pathB p.1 = p.2 ∧ pathB (p.1 ++ "\n") = false ∧ p.1.length ≤ 3 := by decide +kernel
def spLaw (K : PySem.W.Frag) : Sp := fun vs H Q _ => ∃ (a : Addr) (ns : List Int), vs = [.ref a] ∧ SqL K H a (ns.map V.int) ∧ ns.length ≤ 63 ∧ ∀ H', Q (.bl true) H'
section
variable {P : Program} {w : World} {K : PySem.W.Frag} {mg : Str → Option Value} {base : Heap} {f : Addr} {fd : FuncData} {cdv : Value} {A : Around} {outer : List Env} {s : Shared} {H0 H : Hp} {E : XK} {a l : Addr}
theorem hT5 (D : Defs P w K mg base) (hr : Room 16 (XL P w K mg base f cdv A outer s H0 E).A) : HoG (XL P w K mg base f cdv A outer s H0 E) (stT 5) (fun H => T0 H a) (fun H => T0 H a) := by
  refine ⟨_, ps_for PassesOwn.never rfl (pi_list (pe_lst (pa_cons (pe_tup (pa_cons pe_str (pa_cons pe_bl pa_nil))) (pa_cons (pe_tup (pa_cons pe_str (pa_cons pe_bl pa_nil))) (pa_cons (pe_tup (pa_cons pe_str (pa_cons pe_bl pa_nil))) (pa_cons (pe_tup (pa_cons pe_str (pa_cons pe_bl pa_nil))) (pa_cons (pe_tup (pa_cons pe_str (pa_cons pe_bl pa_nil))) (pa_cons (pe_tup (pa_cons pe_str (pa_cons pe_bl pa_nil))) pa_nil))))))))
      (pg_tup rfl (pgs_cons (pg_name (i := 5) scLaw.nd rfl (Or.inl rfl)) (pgs_cons (pg_name (i := 7) scLaw.nd rfl (Or.inl rfl)) pgs_nil)))
      (pss_one (ps_if (PW.pt (pw_or (pt_cmpR op_ne (pe_cl D.path hr (by decide) (by rfl) pass0 (pa_cons (pv 5) pa_nil)) (pv 7) (nomark _)) (pw_or (pt_cmpR op_ne (pe_cl D.fits hr (by decide) (by rfl) pass0 (pa_cons (pv 5) pa_nil)) (pv 7) (nomark _)) (pw_or (pt_val (pe_cl D.path hr (by decide) (by rfl) pass0 (pa_cons (pe_op op_add_str (pv 5) pe_str) pa_nil))) (pw_or1 (pt_not (pt_val (pe_cl D.link hr (by decide) (by rfl) pass0 (pa_cons (pv 5) (pa_cons (pv 7) pa_nil)))))))))) (pss_one (ps_ret pe_bl)) pss_nil)), ?_⟩
  rintro H E0 σ H1 ⟨c, l, t, o, x, d, u, v, rfl, sm⟩ q
  have z2 : 2 ≤ sizeLine := by decide
  refine ⟨z2, fun p1 h1 => ⟨z2, fun p2 h2 => ⟨z2, fun p3 h3 => ⟨z2, fun p4 h4 => ⟨z2, fun p5 h5 => ⟨z2, fun p6 h6 => ⟨by show 6 ≤ sizeLine; decide, fun p7 h7 => ?_⟩⟩⟩⟩⟩⟩⟩
  have s1 := same_new (o := HO.tup [.str "", .bl false]) h1
  have s2 := same_new (o := HO.tup [.str "/", .bl true]) h2
  have s3 := same_new (o := HO.tup [.str "//", .bl false]) h3
  have s4 := same_new (o := HO.tup [.str ".", .bl true]) h4
  have s5 := same_new (o := HO.tup [.str "/..", .bl true]) h5
  have s6 := same_new (o := HO.tup [.str "a/", .bl false]) h6
  have s7 := same_new (o := HO.lst [.ref p1, .ref p2, .ref p3, .ref p4, .ref p5, .ref p6]) h7
  have m6 := s7 _ _ (upd_same (H := upd (upd (upd (upd (upd H1 p1 (.tup [.str "", .bl false])) p2 (.tup [.str "/", .bl true])) p3 (.tup [.str "//", .bl false])) p4 (.tup [.str ".", .bl true])) p5 (.tup [.str "/..", .bl true])) (a := p6) (o := .tup [.str "a/", .bl false]))
  have m5 := s7 _ _ (s6 _ _ (upd_same (H := upd (upd (upd (upd H1 p1 (.tup [.str "", .bl false])) p2 (.tup [.str "/", .bl true])) p3 (.tup [.str "//", .bl false])) p4 (.tup [.str ".", .bl true])) (a := p5) (o := .tup [.str "/..", .bl true])))
  have m4 := s7 _ _ (s6 _ _ (s5 _ _ (upd_same (H := upd (upd (upd H1 p1 (.tup [.str "", .bl false])) p2 (.tup [.str "/", .bl true])) p3 (.tup [.str "//", .bl false])) (a := p4) (o := .tup [.str ".", .bl true]))))
  have m3 := s7 _ _ (s6 _ _ (s5 _ _ (s4 _ _ (upd_same (H := upd (upd H1 p1 (.tup [.str "", .bl false])) p2 (.tup [.str "/", .bl true])) (a := p3) (o := .tup [.str "//", .bl false])))))
  have m2 := s7 _ _ (s6 _ _ (s5 _ _ (s4 _ _ (s3 _ _ (upd_same (H := upd H1 p1 (.tup [.str "", .bl false])) (a := p2) (o := .tup [.str "/", .bl true]))))))
  have m1 := s7 _ _ (s6 _ _ (s5 _ _ (s4 _ _ (s3 _ _ (s2 _ _ (upd_same (H := H1) (a := p1) (o := .tup [.str "", .bl false])))))))
  obtain ⟨H2, e2⟩ : ∃ H2, H2 = upd (upd (upd (upd (upd (upd (upd H1 p1 (.tup [.str "", .bl false])) p2 (.tup [.str "/", .bl true])) p3 (.tup [.str "//", .bl false])) p4 (.tup [.str ".", .bl true])) p5 (.tup [.str "/..", .bl true])) p6 (.tup [.str "a/", .bl false])) p7 (.lst [.ref p1, .ref p2, .ref p3, .ref p4, .ref p5, .ref p6]) := ⟨_, rfl⟩
  have m7 : H2 p7 = some (.lst [.ref p1, .ref p2, .ref p3, .ref p4, .ref p5, .ref p6]) := by rw [e2]; exact upd_same
  have sm2 : Same H H2 := by
    rw [e2]
    exact ((sm.trans s1).trans (s2.trans s3)).trans ((s4.trans s5).trans (s6.trans s7))
  rw [← e2] at m1 m2 m3 m4 m5 m6 ⊢
  have mem : ∀ y ∈ [V.ref p1, .ref p2, .ref p3, .ref p4, .ref p5, .ref p6], ∃ p z b, y = .ref p ∧ H2 p = some (.tup [.str z, .bl b]) ∧ (z, b) ∈ due6 := fun y hy => by
    simp only [List.mem_cons, List.not_mem_nil, or_false] at hy
    rcases hy with rfl | rfl | rfl | rfl | rfl | rfl
    · exact ⟨_, _, _, rfl, m1, by decide +kernel⟩
    · exact ⟨_, _, _, rfl, m2, by decide +kernel⟩
    · exact ⟨_, _, _, rfl, m3, by decide +kernel⟩
    · exact ⟨_, _, _, rfl, m4, by decide +kernel⟩
    · exact ⟨_, _, _, rfl, m5, by decide +kernel⟩
    · exact ⟨_, _, _, rfl, m6, by decide +kernel⟩
  refine ⟨p7, rfl, ⟨_, SqL.of m7⟩, for_list (K := K) (a := p7) (xs := [V.ref p1, .ref p2, .ref p3, .ref p4, .ref p5, .ref p6]) (fun i σ H3 => T0 H2 a σ H3) ⟨c, l, t, o, x, d, u, v, rfl, Same.refl H2⟩ (fun i σ H3 _ h => ?_) ?_ (fun σ H3 h => ?_)⟩
  · obtain ⟨_, _, _, _, _, _, _, _, _, s3⟩ := h
    exact SqL.of (s3 _ _ m7)
  · rintro i y σ H3 hy ⟨c, l, t, o, x, d, u, v, rfl, s8⟩
    obtain ⟨p, z, b, rfl, hp, hm⟩ := mem y (List.mem_of_getElem? hy)
    obtain ⟨d1, d2, d3⟩ := due_path _ hm
    dsimp only at d1 d2 d3
    subst d1
    have hz : z.length ≤ 100000 := Nat.le_trans d3 (by decide)
    have la : (z ++ "\n").length = z.length + 1 := Array.size_append
    refine ⟨p, _, rfl, SqT.of (s8 _ _ hp), rfl, _, _, rfl, _, _, rfl, rfl, ?_⟩
    refine ⟨_, rfl, _, _, rfl, .str z hz, fun H4 s4 => ⟨_, rfl, rfl, _, rfl, iteNS rfl ?_⟩⟩
    refine ⟨_, rfl, z, rfl, hz, fun H5 s5 => ?_⟩
    rw [fits_path]
    refine ⟨_, rfl, rfl, _, rfl, iteNS rfl ?_⟩
    refine ⟨_, rfl, _, _, rfl, rfl, Nat.le_of_lt (small1000 (show z.length + 1 ≤ 1000 by omega)), _, _, rfl, .str _ (by rw [la]; omega), fun H6 s6 => ?_⟩
    rw [d2]
    refine ⟨_, rfl, iteF ?_⟩
    refine ⟨_, rfl, _, rfl, z, rfl, hz, fun H7 s7 => ⟨_, rfl, iteF ?_⟩⟩
    exact ⟨c, l, t, o, _, d, _, v, rfl, ((s8.trans s4).trans s5).trans (s6.trans s7)⟩
  · obtain ⟨c, l, t, o, x, d, u, v, rfl, s3⟩ := h
    exact q _ _ ⟨c, l, t, o, x, d, u, v, rfl, sm2.trans s3⟩
/-- statements that go on -/
def HoN (X : Cx) (sts : List Stmt) (p q : Hp → L2.St → Hp → Prop) : Prop := ∃ t, PSs X sts t ∧ ∀ (G : Hp) (D : Ends) σ H, p G σ H → (∀ σ' H', q G σ' H' → D.nx σ' H') → t D σ H
theorem HoN.one {X : Cx} {st : Stmt} {p q : Hp → L2.St → Hp → Prop} (a : HoG X st p q) : HoN X [st] p q := by
  obtain ⟨t, ht, h⟩ := a
  exact ⟨_, pss_one ht, h⟩
theorem HoN.cons {X : Cx} {st : Stmt} {rest : List Stmt} {p q r : Hp → L2.St → Hp → Prop} (a : HoG X st p q) (b : HoN X rest q r) : HoN X (st :: rest) p r := by
  obtain ⟨t, ht, h1⟩ := a
  obtain ⟨u, hu, h2⟩ := b
  exact ⟨_, pss_cons ht hu, fun G D σ H hp hr => h1 G _ σ H hp fun σ' H' hq => h2 G D σ' H' hq hr⟩
theorem cut_ints (ns : List Int) (lo hi : Option Int) : ∃ ms : List Int, cutV (ns.map V.int) lo hi = ms.map V.int ∧ ms.length ≤ ns.length := by
  unfold cutV
  generalize HT.sIx _ 0 lo = x
  generalize HT.sIx _ _ hi - x = y
  refine ⟨(ns.drop x).take y, by rw [List.map_take, List.map_drop], ?_⟩
  rw [List.length_take, List.length_drop]
  omega
theorem ok_law (F : Fun K "law" "law" sLaw f fd) (B : Bi mg) (D : Defs P w K mg base) : FnOk P w K mg base CX0 17 f fd ["_law_script"] (spLaw K) := by
  refine F.ok scLaw (fun vs H Q E h => ?_) (fun cdv A outer s H vs Q E hr h => ?_)
  · obtain ⟨x, ns, rfl, _⟩ := h
    rfl
  · obtain ⟨a, ns, rfl, hS, hlen, q⟩ := h
    rw [bodyLaw]
    have hr' : Room 16 (XL P w K mg base f cdv A outer s H E).A := hr
    obtain ⟨tb, hb, rb⟩ := HoN.cons (hT0 (a := a) (P := P) (w := w) (K := K) (mg := mg) (base := base) (f := f) (cdv := cdv) (A := A) (outer := outer) (s := s) (H0 := H) (E := E)) (HoN.cons (hT1 B D hr') (HoN.cons (hT2 D hr') (HoN.cons hT3 (HoN.cons (hT4 B D hr') (HoN.one (hT5 D hr'))))))
    refine ⟨_, pss_cons (ps_for PassesOwn.never rfl (pi_list (pe_op op_catS (pe_lst (pa_cons (pe_cl D.cell hr' (by decide) (by rfl) pass0 (pa_cons (pv 0) (pa_cons pe_int pa_nil))) pa_nil)) (pe_slice sl_list (pv 0) (po_some pe_int) (po_some pe_int)))) (pg_name (i := 1) scLaw.nd rfl (Or.inl rfl)) hb) (pss_one (ps_ret pe_bl)), ?_⟩
    refine ⟨_, rfl, a, ns, 0, rfl, hS, fun i0 _ => ⟨by show 1 ≤ sizeLine; decide, fun p1 h1 => ?_⟩⟩
    have s1 := same_new (o := HO.lst [.int i0]) h1
    have hS1 := s1.seq hS
    refine ⟨_, rfl, 1, rfl, 8, rfl, a, _, rfl, hS1, fun p2 h2 => ?_⟩
    have s2 := same_new (o := HO.lst (cutV (ns.map V.int) (some 1) (some 8))) h2
    obtain ⟨ms, hms, hml⟩ := cut_ints ns (some 1) (some 8)
    rw [hms] at s2 ⊢
    refine ⟨p1, p2, _, _, rfl, rfl, SqL.of (s2 _ _ upd_same), SqL.of upd_same, Nat.le_of_lt (small1000 (by rw [List.length_map]; show 1 + ms.length ≤ 1000; omega)), fun p3 h3 => ?_⟩
    obtain ⟨HL, eL⟩ : ∃ HL, HL = upd (upd (upd H p1 (.lst [.int i0])) p2 (.lst (ms.map V.int))) p3 (.lst ([.int i0] ++ ms.map V.int)) := ⟨_, rfl⟩
    have hL : HL p3 = some (.lst ((i0 :: ms).map V.int)) := by rw [eL]; exact upd_same
    rw [← eL]
    refine ⟨p3, rfl, ⟨_, SqL.of hL⟩, for_list (K := K) (a := p3) (xs := (i0 :: ms).map V.int) (fun i σ H3 => T0 HL a σ H3) ⟨_, _, _, _, _, _, _, _, rfl, Same.refl HL⟩ (fun i σ H3 _ h => ?_) ?_ (fun σ H3 h => q H3)⟩
    · obtain ⟨_, _, _, _, _, _, _, _, _, s3⟩ := h
      exact SqL.of (s3 _ _ hL)
    · rintro i y σ H3 hy ⟨c, l, t, o, x, d, u, v, rfl, s8⟩
      obtain ⟨z, rfl⟩ : ∃ z, y = V.int z := by
        rw [List.getElem?_map] at hy
        cases e : (i0 :: ms)[i]? with
        | none =>
          rw [e] at hy
          cases hy
        | some z =>
          rw [e] at hy
          exact ⟨z, (Option.some.inj hy).symm⟩
      exact rb HL _ _ _ ⟨z, l, t, o, x, d, u, v, rfl, s8⟩ fun σ' H' h => h
end
end Tx
set_option Elab.async false
set_option linter.all false
set_option maxRecDepth 100000
set_option maxHeartbeats 8000000
namespace Tx
open PySem PySem.Spec PyProof.Rows L2 Cm
/-- a method of a class of the top -/
structure MtFact (K : PySem.W.Frag) (CT : Addr) (m qual : Str) (st : Stmt) : Prop where
  ex : ∃ f fd, Meth K CT m f ∧ Fun K m qual st f fd
theorem MtFact.of {K : PySem.W.Frag} {CT : Addr} {m qual : Str} {st : Stmt} {f : Addr} {oc : Value} {od an : Option Addr} {sl : Array (Option Value)} {kV dc pm cd ct : Value} (a : PySem.W.findIn K (.ref CT) m = some (some (.ref f))) (i : PySem.W.isFn K (.ref f) = true)
    (l : K.lookup f = some ⟨oc, od, .func (PySem.W.fnOf m qual (defArgs st) (defBody st) (defScope st) .none kV dc pm an cd ct), sl⟩) (c : PySem.W.codeIn K cd qual = true) (k : PySem.W.keepIn K (.ref f) = true) : MtFact K CT m qual st :=
  ⟨f, _, ⟨a, i, k⟩, fun_mk l c k⟩
/-- the builtins that the text names -/
structure BiF (K : PySem.W.Frag) : Prop where
  isin : PySem.W.nsIn K mainGlobals "isinstance" = some none
  int : PySem.W.nsIn K mainGlobals "int" = some none
  bool : PySem.W.nsIn K mainGlobals "bool" = some none
  str : PySem.W.nsIn K mainGlobals "str" = some none
  dict : PySem.W.nsIn K mainGlobals "dict" = some none
  tuple : PySem.W.nsIn K mainGlobals "tuple" = some none
  range : PySem.W.nsIn K mainGlobals "range" = some none
  len : PySem.W.nsIn K mainGlobals "len" = some none
  all : PySem.W.nsIn K mainGlobals "all" = some none
  any : PySem.W.nsIn K mainGlobals "any" = some none
  sorted : PySem.W.nsIn K mainGlobals "sorted" = some none
theorem BiF.bi {K : PySem.W.Frag} {h : Heap} {mg : Str → Option Value} (b : BiF K) (X : K.In h) (G : h.Ns mainGlobals mg) : Bi mg :=
  ⟨PySem.W.mg_none_of X G b.isin, PySem.W.mg_none_of X G b.int, PySem.W.mg_none_of X G b.bool, PySem.W.mg_none_of X G b.str, PySem.W.mg_none_of X G b.dict, PySem.W.mg_none_of X G b.tuple, PySem.W.mg_none_of X G b.range, PySem.W.mg_none_of X G b.len, PySem.W.mg_none_of X G b.all, PySem.W.mg_none_of X G b.any, PySem.W.mg_none_of X G b.sorted⟩
/-- an error of the text -/
structure ErF (K : PySem.W.Frag) (C : Addr) : Prop where
  x : PySem.W.excIn K C [.type "ValueError", .type "Exception", .type "BaseException", .type "object"] "ValueError.__new__" = true
  k : PySem.W.keepIn K (.ref C) = true
  b : PySem.W.subIn K (.ref C) (.type "BaseException") = some true
  t : PySem.W.typeIn K (.ref C) = some (.type "type")
  d : PySem.W.hasDictIn K C = true
  s : PySem.W.subIn K (.ref C) (.ref C) = some true
/-- a class of the text -/
structure ClF (K : PySem.W.Frag) (C : Addr) : Prop where
  pg : PySem.W.plainGet K C Str.empty = true
  hd : PySem.W.hasDictIn K C = true
  po : PySem.W.plainOver K C = true
  sa : PySem.W.findIn K (.ref C) "__setattr__" = some (some (.builtin "object.__setattr__"))
  mk' : PySem.W.makesIn K C = true
  kp : PySem.W.keepIn K (.ref C) = true
theorem law_at {l : PySem.W.OpenLaw} {w : World} {K : PySem.W.Frag} {h : Heap} {mg : Str → Option Value} {fa C CT : Addr} {tL tN tD : Tok} (X : K.In h) (G : h.Ns mainGlobals mg) (hfa : mg "law" = some (.ref fa))
    (w1 : FnFact K "is_whole" sWhole) (w2 : FnFact K "is_name" sName) (w3 : FnFact K "is_path" sPath) (w4 : FnFact K "node_value" sNode) (w5 : FnFact K "_law_cell_at" sCell) (w6 : FnFact K "_law_digit" sDigit)
    (w7 : FnFact K "_law_is_word" sWord) (w8 : FnFact K "_law_fits" sFits) (w9 : FnFact K "_law_joined" sJoined) (w10 : FnFact K "_law_drawn" sDrawn) (w11 : FnFact K "_law_link_right" sLink) (w12 : FnFact K "law" sLaw)
    (aC : PySem.W.nsIn K mainGlobals "NoTree" = some (some (.ref C))) (eC : ErF K C) (aT : PySem.W.nsIn K mainGlobals "Tree" = some (some (.ref CT))) (cT : ClF K CT) (nT : PySem.W.findIn K (.ref CT) "nodes" = some none)
    (m1 : MtFact K CT "__init__" "Tree.__init__" sInit) (m2 : MtFact K CT "held" "Tree.held" sHeld) (m3 : MtFact K CT "kind" "Tree.kind" sKind) (m4 : MtFact K CT "value" "Tree.value" sValue)
    (bi : BiF K) (kL : PySem.W.nsIn K mainGlobals "LETTERS" = some (some (.str letters tL))) (kN : PySem.W.nsIn K mainGlobals "MOST_NODES" = some (some (.int 60 tN))) (kD : PySem.W.nsIn K mainGlobals "MOST_DEPTH" = some (some (.int 8 tD))) :
    ∃ fd : FuncData, (∀ (s : Shared) (v : Value), BindsTo s fd ⟨[v], []⟩ [("_law_script", v)]) ∧ ∀ base : Heap, K.In base → base.Ns mainGlobals mg → FnOk l.prog w K mg base CX0 17 fa fd ["_law_script"] (spLaw K) := by
  have B : Bi mg := bi.bi X G
  have Cn : Co mg := ⟨⟨_, PySem.W.mg_of X G kL⟩, ⟨_, PySem.W.mg_of X G kN⟩, ⟨_, PySem.W.mg_of X G kD⟩⟩
  have Nt : No K mg C := ⟨PySem.W.mg_of X G aC, eC.x, eC.k, eC.b, eC.t, PySem.W.exm_ref eC.b eC.d eC.t eC.s⟩
  have T : Tr K mg CT := ⟨⟨cT.pg, cT.hd, cT.po, cT.sa⟩, nT, PySem.W.mg_of X G aT⟩
  obtain ⟨f1, d1, a1, F1⟩ := w1
  obtain ⟨f2, d2, a2, F2⟩ := w2
  obtain ⟨f3, d3, a3, F3⟩ := w3
  obtain ⟨f4, d4, a4, F4⟩ := w4
  obtain ⟨f5, d5, a5, F5⟩ := w5
  obtain ⟨f6, d6, a6, F6⟩ := w6
  obtain ⟨f7, d7, a7, F7⟩ := w7
  obtain ⟨f8, d8, a8, F8⟩ := w8
  obtain ⟨f9, d9, a9, F9⟩ := w9
  obtain ⟨f10, d10, a10, F10⟩ := w10
  obtain ⟨f11, d11, a11, F11⟩ := w11
  obtain ⟨f12, d12, a12, F12⟩ := w12
  obtain ⟨g1, e1, M1, G1⟩ := m1
  obtain ⟨g2, e2, M2, G2⟩ := m2
  obtain ⟨g3, e3, M3, G3⟩ := m3
  obtain ⟨g4, e4, M4, G4⟩ := m4
  have e := hfa.symm.trans (PySem.W.mg_of X G a12)
  cases e
  have b1 := F1.binds (ps := ["thing", "low", "high"]) fun _ _ _ _ _ _ us hl => match us, hl with | [_, _, _], _ => rfl
  have b2 := F2.binds (ps := ["thing"]) fun _ _ _ _ _ _ us hl => match us, hl with | [_], _ => rfl
  have b3 := F3.binds (ps := ["thing"]) fun _ _ _ _ _ _ us hl => match us, hl with | [_], _ => rfl
  have b4 := F4.binds (ps := ["thing", "depth", "met"]) fun _ _ _ _ _ _ us hl => match us, hl with | [_, _, _], _ => rfl
  have b5 := F5.binds (ps := ["_law_script", "_law_k"]) fun _ _ _ _ _ _ us hl => match us, hl with | [_, _], _ => rfl
  have b6 := F6.binds (ps := ["_law_state", "_law_base"]) fun _ _ _ _ _ _ us hl => match us, hl with | [_, _], _ => rfl
  have b7 := F7.binds (ps := ["_law_word"]) fun _ _ _ _ _ _ us hl => match us, hl with | [_], _ => rfl
  have b8 := F8.binds (ps := ["_law_text"]) fun _ _ _ _ _ _ us hl => match us, hl with | [_], _ => rfl
  have b9 := F9.binds (ps := ["_law_state"]) fun _ _ _ _ _ _ us hl => match us, hl with | [_], _ => rfl
  have b10 := F10.binds (ps := ["_law_state"]) fun _ _ _ _ _ _ us hl => match us, hl with | [_], _ => rfl
  have b11 := F11.binds (ps := ["_law_text", "_law_fits_here"]) fun _ _ _ _ _ _ us hl => match us, hl with | [_, _], _ => rfl
  have c1 := G1.binds (ps := ["self", "top"]) fun _ _ _ _ _ _ us hl => match us, hl with | [_, _], _ => rfl
  have c2 := G2.binds (ps := ["self", "node"]) fun _ _ _ _ _ _ us hl => match us, hl with | [_, _], _ => rfl
  have c3 := G3.binds (ps := ["self", "node"]) fun _ _ _ _ _ _ us hl => match us, hl with | [_, _], _ => rfl
  have c4 := G4.binds (ps := ["self", "node"]) fun _ _ _ _ _ _ us hl => match us, hl with | [_, _], _ => rfl
  obtain ⟨oc12, od12, kV12, dc12, pm12, an12, cd12, ct12, sl12, e12, _, _⟩ := id F12.ex
  subst e12
  refine ⟨PySem.W.fnOf "law" "law" (defArgs sLaw) (defBody sLaw) (defScope sLaw) .none kV12 dc12 pm12 an12 cd12 ct12, fun s v => .of_eq rfl, fun base _ _ => ?_⟩
  have W : Cl l.prog w K mg base CX0 1 "is_whole" ["thing", "low", "high"] (spWhole K) := .of X G a1 F1 b1 (ok_whole F1 B)
  have N : Cl l.prog w K mg base CX0 1 "is_name" ["thing"] (spName K) := .of X G a2 F2 b2 (ok_name F2 B Cn)
  have Pt : Cl l.prog w K mg base CX0 2 "is_path" ["thing"] (spPath K) := .of X G a3 F3 b3 (ok_path (k := 0) (fN := f2) (fdN := d2) F3 B N)
  have NX : Cl l.prog w K mg base (L2.CX l.prog w) 12 "node_value" ["thing", "depth", "met"] (spNode C 9) := .of X G a4 F4 b4 (ok_node F4 (PySem.W.mg_of X G a4) b4 B Cn Nt W N Pt 9)
  have Dg : Cl l.prog w K mg base CX0 1 "_law_digit" ["_law_state", "_law_base"] spDigit := .of X G a6 F6 b6 (ok_digit F6 B)
  have OH : FnOk l.prog w K mg base CX0 1 g2 e2 ["self", "node"] (spHeld CT) := ok_held G2 B T
  have TM : TrM l.prog w K mg base CT C := ⟨T, ⟨g1, e1, ⟨cT.mk', M1.at_, M1.fn, cT.kp⟩, ok_init G1 B T Nt NX, c1⟩, ⟨g3, e3, M3, ok_kind G3 B T M2 OH c2, c3⟩, ⟨g4, e4, M4, ok_value G4 B T M2 OH c2, c4⟩⟩
  have D : Defs l.prog w K mg base :=
    { cell := .of X G a5 F5 b5 (ok_cell F5 B)
      joined := .of X G a9 F9 b9 (ok_joined F9 B Dg)
      drawn := .of X G a10 F10 b10 (ok_drawn F10 B Dg)
      path := Pt
      fits := .of X G a8 F8 b8 (ok_fits F8 B (.of X G a7 F7 b7 (ok_word F7 B)))
      link := .of X G a11 F11 b11 (ok_link F11 B Nt TM) }
  exact ok_law F12 B D
end Tx
open PySem PySem.W PyProof.Rows
set_option maxRecDepth 100000 in
set_option maxHeartbeats 0 in
theorem PySem.Challenge.cw_spreadmounts_k03_paths_and_links_holds : PySem.Challenge.rw_spreadmounts_k03_paths_and_links.Holds := by
  w_on; o_law; k_head; (case hw => w_witness2)
  k_fill
  refine L2.walk_of (l := PySem.Challenge.rw_spreadmounts_k03_paths_and_links) (n := 63) (k := 17) (x := "_law_script") (CX := fun _ => L2.CX0) (sp := fun w => Tx.spLaw _) rfl (by decide) rfl ⟨rfl, by decide, by decide⟩ (fun w h Y => PySem.W.kIn_of Y) ?F (fun _ _ a ns hl _ hS => ⟨a, ns, rfl, hS, hl, fun _ => rfl⟩) (fun _ _ _ _ _ h => h)
  case F =>
    intro w mg fa h KX G hmg
    refine' Tx.law_at KX G hmg ?w1 ?w2 ?w3 ?w4 ?w5 ?w6 ?w7 ?w8 ?w9 ?w10 ?w11 ?w12 ?aC ?eC ?aT ?cT ?nT ?m1 ?m2 ?m3 ?m4 ?bi ?kL ?kN ?kD
    (case aC => k_is)
    (case aT => k_is)
    (case eC => refine' ⟨?x, ?k, ?b, ?t, ?d, ?s⟩; (case x => k_exc); (case k => k_is); (case b => k_is); (case t => k_is); (case d => k_is); (case s => first | rfl | k_is))
    (case cT => refine' ⟨?pg, ?hd, ?po, ?sa, ?mk, ?kp⟩; (case pg => k_is); (case hd => k_is); (case po => k_is); (case sa => k_is); (case mk => k_is); (case kp => k_is))
    (case nT => k_is)
    (case bi => constructor <;> k_is)
    (case kL => k_is)
    (case kN => k_is)
    (case kD => k_is)
    (case m1 => refine' Tx.MtFact.of ?a ?i ?l ?c ?k; (case a => k_is); (case i => k_is); (case l => k_is); (case c => k_is); (case k => k_is))
    (case m2 => refine' Tx.MtFact.of ?a ?i ?l ?c ?k; (case a => k_is); (case i => k_is); (case l => k_is); (case c => k_is); (case k => k_is))
    (case m3 => refine' Tx.MtFact.of ?a ?i ?l ?c ?k; (case a => k_is); (case i => k_is); (case l => k_is); (case c => k_is); (case k => k_is))
    (case m4 => refine' Tx.MtFact.of ?a ?i ?l ?c ?k; (case a => k_is); (case i => k_is); (case l => k_is); (case c => k_is); (case k => k_is))
    all_goals (refine' Cm.FnFact.of ?a ?l ?c ?k; (case a => k_is); (case l => k_is); (case c => k_is); (case k => k_is))
