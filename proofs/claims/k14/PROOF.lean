import PyProof.Rows.All
import Wide.All
import OpenK.AllK
import Wide.FinOn
import HandS.ForMost
import HandS.Exc
import HandS.TryOnly
import HandS.TryMany
import HandS.ExcOwn
import HandS.WordsExc
import HandS.IsInst
import HandS.Wide
import HandS.Codes
import HandS.Evl
import HandS.Walk
import HandS.EndBits
import HandS.StrMore
import HandS.ExcIs
import HandS.DictComp
import KE.GoesComp
import KE.GoesRaise
import KE.KDictDisplayH
import HandS.More
import HandS.WordsDict
import HandS.DictSub
import HandS.TupAny
import HandS.Zip
import HandS.Defaults
import HandS.SetKeys
import HandS.HeadHook4
import HandS.HeadNt
import HandS.HeadEnd
import HandS.Head2
import PySem.Challenge.RW_spreadmounts_k14_what_is_no_deed
set_option Elab.async false
set_option linter.all false
set_option maxRecDepth 100000
set_option maxHeartbeats 4000000
namespace Cm
open PySem PySem.Spec PyProof.Rows L2
/-- all but l is as it was -/
def But (l : Addr) (H H' : Hp) : Prop := ∀ b o, b ≠ l → H b = some o → H' b = some o
theorem But.refl (l : Addr) (H : Hp) : But l H H := fun _ _ _ h => h
theorem But.trans {l : Addr} {H H1 H2 : Hp} (a : But l H H1) (b : But l H1 H2) : But l H H2 := fun c o n h => b c o n (a c o n h)
theorem But.upd {l : Addr} {H : Hp} {o : HO} : But l H (upd H l o) := fun b u n h => by rw [upd_ne n]; exact h
theorem But.new {l p : Addr} {H : Hp} {o : HO} (h : H p = none) : But l H (L2.upd H p o) := fun b u n e => by rw [upd_ne (ne_of_none e h)]; exact e
theorem mod_nat {x b : Int} (h : 0 < b) : ∃ d : Nat, (d : Int) < b ∧ x % b = (d : Int) := by
  have h1 := Int.emod_nonneg x (show b ≠ 0 by omega)
  have h2 := Int.emod_lt_of_pos x h
  exact ⟨(x % b).toNat, by omega, by omega⟩
theorem same_new {H : Hp} {p : Addr} {o : HO} (h : H p = none) : Same H (upd H p o) := fun b x e => by
  rw [upd_ne (ne_of_none e h)]
  exact e
theorem same_mut {H H' : Hp} {p : Addr} {o : HO} (h : H p = none) (s : Same H H') : Same H (upd H' p o) := fun b x e => by
  rw [upd_ne (ne_of_none e h)]
  exact s b x e
theorem Same.but {H H' : Hp} (l : Addr) (s : Same H H') : But l H H' := fun b o _ h => s b o h
/-! ### statements by what holds ahead and behind -/
def Ho (X : Cx) (st : Stmt) (p q : L2.St → Hp → Prop) : Prop := ∃ t, PS X st t ∧ ∀ (D : Ends) σ H, p σ H → (∀ σ' H', q σ' H' → D.nx σ' H') → t D σ H
def HoR (X : Cx) (sts : List Stmt) (p : L2.St → Hp → Prop) (r : VK) : Prop := ∃ t, PSs X sts t ∧ ∀ (D : Ends) σ H, p σ H → (∀ v H', r v H' → D.rt v H') → t D σ H
theorem HoR.cons {X : Cx} {st : Stmt} {rest : List Stmt} {p q : L2.St → Hp → Prop} {r : VK} (a : Ho X st p q) (b : HoR X rest q r) : HoR X (st :: rest) p r := by
  obtain ⟨t, ht, h1⟩ := a
  obtain ⟨u, hu, h2⟩ := b
  exact ⟨_, pss_cons ht hu, fun D σ H hp hr => h1 _ σ H hp fun σ' H' hq => h2 D σ' H' hq hr⟩
/-- a def, called by its name -/
structure Cl (P : Program) (w : World) (K : PySem.W.Frag) (mg : Str → Option Value) (base : Heap) (CX : CXT) (k : Nat) (x : Str) (ps : List Str) (sp : Sp) : Prop where
  ex : ∃ f fd, FnOk P w K mg base CX k f fd ps sp ∧ mg x = some (.ref f) ∧ PySem.W.keepIn K (.ref f) = true ∧ Binds K fd ps []
section
variable {X : Cx} {CX : CXT} {k j : Nat} {x : Str} {ps : List Str} {sp : Sp} {e : Expr} {es : List Expr} {t : TA} {p pos : Pos} {E : XK}
theorem pe_cl (c : Cl X.prog X.w X.K X.mg X.base CX k x ps sp) (hr : Room j X.A) (hk : k ≤ j) (hg : Gl X x) (hx : Passes CX X E) (ha : PA X (e :: es) t)
    (hdb : (x == ("__debug__" : Str)) = false := by decide) (he : starEach (e :: es) X.env = (false, eval e X.env) :: starEach es X.env := by rfl) (hpl : (backTo pos (starEach es X.env)).any (·.1) = false := by rfl) :
    PE X (.Call (.Name x p) (e :: es) [] pos) (tCall sp [] E t) := by
  obtain ⟨f, fd, F, hm, kp, b⟩ := c.ex
  exact pe_call F (hr.mono hk) hg hm kp b .nil hx ha hdb he hpl
theorem pe_cl0 (c : Cl X.prog X.w X.K X.mg X.base CX k x ps sp) (hr : Room j X.A) (hk : k ≤ j) (hg : Gl X x) (hx : Passes CX X E)
    (hdb : (x == ("__debug__" : Str)) = false := by decide) : PE X (.Call (.Name x p) [] [] pos) (tCall sp [] E tNil) := by
  obtain ⟨f, fd, F, hm, kp, b⟩ := c.ex
  exact pe_call0 F (hr.mono hk) hg hm kp b .nil hx hdb
end
/-- xs + ys, lists that are read -/
def rCatS (K : PySem.W.Frag) : R2 := fun x y H Q => ∃ l b xs zs, x = .ref l ∧ y = .ref b ∧ SqL K H l xs ∧ SqL K H b zs ∧ xs.length + zs.length ≤ sizeLine ∧ ∀ p, H p = none → Q (.ref p) (upd H p (.lst (xs ++ zs)))
theorem op_catS {X : Cx} : OpR X (binaryOp .Add) (rCatS X.K) := by
  intro pins s σ H x y v u Q I rx ry h
  obtain ⟨l, b, xs, zs, rfl, rfl, hl, hb, hz, q⟩ := h
  cases rx
  cases ry
  obtain ⟨its, r, ⟨⟨c1, d1, t1, sl1⟩, n1, e1, k1, m1, f1⟩, z1⟩ := I.list hl
  obtain ⟨its2, r2, ⟨⟨c2, d2, t2, sl2⟩, n2, e2, k2, m2, f2⟩, z2⟩ := I.list hb
  dsimp only at k1 m1 f1 k2 m2 f2
  subst k1 m1 f1 k2 m2 f2
  have hl1 := r.length
  have hl2 := r2.length
  refine concat_meets ⟨_, e1, rfl⟩ ⟨_, e2, rfl⟩ noFill_list_add seq_list_add PySem.F.slot_list_add PySem.F.entry_list_add (PySem.F.args_list_add_2 _ _) (list_addW l b its.toArray its2.toArray n1 n2 none none sl1 sl2 (by rw [List.size_toArray, List.size_toArray, ← hl1, ← hl2]; exact hz)) ⟨e1, e2, ?_⟩
  have ea : its.toArray ++ its2.toArray = (its ++ its2).toArray := by simp
  rw [ea]
  exact ⟨.ref _, _, I.lnew (t' := s.toks) (r.append r2) (by rw [List.length_append]; exact hz), rfl, q _ I.fresh⟩
/-- a def of the top -/
structure FnFact (K : PySem.W.Frag) (x : Str) (st : Stmt) : Prop where
  ex : ∃ f fd, PySem.W.nsIn K mainGlobals x = some (some (.ref f)) ∧ Fun K x x st f fd
theorem FnFact.of {K : PySem.W.Frag} {x : Str} {st : Stmt} {f : Addr} {oc : Value} {od an : Option Addr} {sl : Array (Option Value)} {kV dc pm cd ct : Value} (a : PySem.W.nsIn K mainGlobals x = some (some (.ref f)))
    (l : K.lookup f = some ⟨oc, od, .func (PySem.W.fnOf x x (defArgs st) (defBody st) (defScope st) .none kV dc pm an cd ct), sl⟩) (c : PySem.W.codeIn K cd x = true) (k : PySem.W.keepIn K (.ref f) = true) : FnFact K x st :=
  ⟨f, _, a, fun_mk l c k⟩
theorem Cl.of {P : Program} {w : World} {K : PySem.W.Frag} {mg : Str → Option Value} {base : Heap} {CX : CXT} {k : Nat} {x : Str} {st : Stmt} {f : Addr} {fd : FuncData} {ps : List Str} {sp : Sp} {h : Heap} (X : K.In h) (G : h.Ns mainGlobals mg) (a : PySem.W.nsIn K mainGlobals x = some (some (.ref f)))
    (F : Fun K x x st f fd) (b : Binds K fd ps []) (o : FnOk P w K mg base CX k f fd ps sp) : Cl P w K mg base CX k x ps sp := ⟨f, fd, o, PySem.W.mg_of X G a, F.kp, b⟩
/-- the state of the draws -/
def StOk (st : List V) : Prop := (∃ c, st = [.int c]) ∨ ∃ a b c, st = [.int a, .int b, .int c]
/-- _law_digit -/
def spDigit : Sp := fun vs H Q _ => ∃ l st base, vs = [.ref l, .int base] ∧ H l = some (.lst st) ∧ StOk st ∧ 0 < base ∧ base < 1073741824 ∧
  ∀ (d : Nat) st' H', (d : Int) < base → StOk st' → H' l = some (.lst st') → But l H H' → Q (.int d) H'
/-- the state's list, all else as at the entry -/
structure Bs (H : Hp) (l : Addr) (H' : Hp) : Prop where
  st : ∃ st, H' l = some (.lst st) ∧ StOk st
  but : But l H H'
theorem Bs.same {H H1 H2 : Hp} {l : Addr} (b : Bs H l H1) (s : Same H1 H2) : Bs H l H2 := ⟨let ⟨st, h, o⟩ := b.st; ⟨st, s _ _ h, o⟩, b.but.trans (Same.but l s)⟩
theorem Bs.trans {H H1 H2 : Hp} {l : Addr} (a : Bs H l H1) (b : Bs H1 l H2) : Bs H l H2 := ⟨b.st, a.but.trans b.but⟩
end Cm
set_option Elab.async false
set_option linter.all false
set_option maxRecDepth 100000
set_option maxHeartbeats 4000000
/-! A dict comprehension whose values may raise out of a call. -/
namespace DcE
open PySem PySem.Spec PyProof.Rows L2
section
variable {X : Cx} {pins : List (Addr × Obj)} {σ : L2.St} {H : Hp} {s s' : Shared} {E : XK} {u : Value}
theorem flies (I : Inv X pins σ H s) (c : L2.CX X.prog X.w X.stack H s E u s') :
    ∃ (a : Addr) (B : Heap) (sI : Shared) (pn : List (Addr × Obj)) (σ' : L2.St) (H' : Hp) (cls : Value) (d : Option Addr), u = .ref a ∧ Inv X pn σ' H' sI ∧ (∀ b o, sI.heap.get? b = some o → b ∉ frs X.stack → B.get? b = some o) ∧
      sI.heap.UpToSlots s'.heap ∧ HandSPX.FlyingZ B X.stack a (Zc cls d) s'.heap ∧ H' a = none ∧ s'.os = sI.os ∧ AllBare s'.gens ∧ E cls d H' := by
  obtain ⟨a0, B0, H0, cls0, d0, e0, ⟨_, _, _, oe0, vs0, T0, oT0, ts0, he0, _, hd0, h10, _, _, hT0, hdT0, h30⟩, _⟩ := id c
  obtain ⟨a, B, sI, pn, σ', H', cls, d, e, I', nb, up, sky, na, os, ag, w⟩ := XE.of_call (W := fun cls d _ H => E cls d H) I (fun _ _ _ h => h) c
  have ea : a0 = a := by
    rw [e] at e0
    injection e0 with q
    exact q.symm
  rw [ea] at he0
  have fl : HandSPX.FlyingZ B X.stack a (Zc cls d) s'.heap := by
    rcases sky with ⟨_, _, _, oe, vs, he, _, hd, h1⟩ | fl | ⟨_, _, _, oe, vs, T, oT, ts, he, _, hd, h1, _, _, hT, hdT, h3⟩
    · exfalso
      rw [he0] at he
      cases he
      rw [hd0] at hd
      cases hd
      rw [h10] at h1
      cases h1
    · exact fl
    · exfalso
      rw [he0] at he
      cases he
      rw [hd0] at hd
      cases hd
      rw [h10] at h1
      cases h1
      rw [hT0] at hT
      cases hT
      rw [hdT0] at hdT
      cases hdT
      rw [h30] at h3
      cases h3
  exact ⟨a, B, sI, pn, σ', H', cls, d, e, I', nb, up, fl, na, os, ag, w⟩
theorem but_one (h : Heap) (C : Addr) : ∃ G : Heap, (∀ b, b ≠ C → G.get? b = h.get? b) ∧ G.get? C = none := by
  obtain ⟨G, g1, g2⟩ := restrict h fun b => decide (b ≠ C)
  exact ⟨G, fun b hb => g1 b (decide_eq_true hb), g2 C (by simp)⟩
/-- out of the block: noted, the block let go, on in the def's own frame -/
theorem out {σ8 : L2.St} {H3 H8 : Hp} {s3 s8 : Shared} {scope : Scope} {ce : Env} {fp : List Addr} {use : Option (Value → Sem Unit)} {Qf : Value → Shared → Prop} {D : Value} {pn : List (Addr × Obj)} {xe : Value → Shared → Prop}
    (tk : Takes X (fun cls d _ H => E cls d H)) (hs : X.stack = X.env :: X.outer) (hf : X.env.frame = some X.env.locals) (hcf : ce.frame = X.env.frame) (cL : ce.locals = s3.heap.objs.size) (I3 : Inv X pins σ H3 s3) (f3 : ∀ b ∈ fp, FpOk X pins H3 b)
    (I8 : Inv ((X.blk s3 H3 scope ce fp).wish xe) pn σ8 H8 s8) (c : L2.CX X.prog X.w X.stack H8 s8 E u s') :
    notedBy (model X.prog X.w) X.A ce (fun e s2 => compEnds (model X.prog X.w) X.A X.xe use Qf D ce (.error e) s2) u s' := by
  obtain ⟨a, B, sI, pn', σ', H', cls, d, rfl, I, nb, up, fl, na, os, ag, hE⟩ := flies I8 c
  obtain ⟨m, hn, _⟩ := I.loc
  have hn : sI.heap.Ns ce.locals m := hn
  have fl : HandSPX.FlyingZ B X.stack a (Zc cls d) s'.heap := fl
  have nb : ∀ b o, sI.heap.get? b = some o → b ∉ frs X.stack → B.get? b = some o := nb
  have hfr : X.A.frames = some (X.env :: X.outer) := by rw [I3.ok.frames, hs]
  show wpAny _ _ (noteFrame (.ref a) ce) _ _ s'
  rw [noteFrame_env _ hcf]
  refine HandSPX.looks_onZ Zc.steady hfr hf (by rw [← hs]; exact fl) fun h1 hh up1 => ?_
  have hn1 : h1.Ns ce.locals m := Heap.Ns.upToSlots (Heap.Ns.upToSlots hn up) up1
  suffices q : CompFails (model X.prog X.w) X.A X.xe ce (.ref a) { s' with heap := h1 } by
    cases use <;> exact q
  refine ⟨m, hn1, fun h2 m2 hn2 hs2 => ?_⟩
  obtain ⟨b1, b0, f1, oe, vs, T, oT, ts, he, hz, hd, hv1, hnT, hTe, hT, hdT, h3⟩ := hh
  obtain ⟨B2, g1, g2⟩ := but_one B ce.locals
  obtain ⟨G2, k1, k2⟩ := but_one sI.heap ce.locals
  obtain ⟨oL, es, ep, hoL, hdL, _⟩ := hn1
  have naC : a ≠ ce.locals := fun z => by
    rw [z, hoL] at he
    cases he
    rw [hdL] at hd
    cases hd
  have nTC : T ≠ ce.locals := fun z => by
    rw [z, hoL] at hT
    cases hT
    rw [hdL] at hdT
    cases hdT
  have toB : ∀ b o, B2.get? b = some o → b ≠ ce.locals ∧ B.get? b = some o := fun b o e => by
    have nbC : b ≠ ce.locals := fun z => by
      rw [z, g2] at e
      cases e
    exact ⟨nbC, (g1 b nbC).symm.trans e⟩
  have noB : ∀ b, B.get? b = none → B2.get? b = none := fun b e => by
    cases q : B2.get? b with
    | none => rfl
    | some o =>
      rw [(toB b o q).2] at e
      cases e
  have st2 : B2.StaysIn h2 := fun b o e => (hs2.2 b (toB b o e).1).trans (b1 b o (toB b o e).2)
  have ff2 : h2.FunFrames B2 (X.env :: X.outer) := funFrames_none (Heap.FunFrames.sameBut hs2 hn2 f1) fun L hL => by
    obtain ⟨hb, _⟩ := f1.mem hL
    exact noB L hb
  have tr2 : HandSPX.TracedZ h2 B2 a (Zc cls d) (rawInt X.env.locals) := ⟨oe, vs, T, oT, ts, (hs2.2 a naC).trans he, hz, hd, hv1, noB T hnT, hTe, (hs2.2 T nTC).trans hT, hdT, h3⟩
  unfold PySem.passOn
  refine wpAny_bind (wpAny_field ((hs2.2 a naC).trans he) hd hv1 ?_)
  rw [if_neg (show ¬ ((Value.ref T == Value.none) = true) from by simp)]
  rw [hcf, hf]
  refine wpAny_bind (HandSPX.setFlight_anyZ st2 ff2 tr2 fun h4 t1 t2 t3 t4 => wpAny_throw (tk _ _ ?_))
  have I3' : Inv X pins σ H' { sI with heap := G2 } := by
    have un : Un (frs X.stack) fp H3 H' s3.heap sI.heap := I.base
    have nC : ∀ b o, s3.heap.get? b = some o → b ≠ ce.locals := fun b o e z => by
      have q := Heap.lt_size e
      rw [z, cL] at q
      exact Nat.lt_irrefl _ q
    refine I3.call' (ch := fp) I.os ⟨fun b o e n x y => (k1 b (nC b o e)).trans (un.keep b o e n x y), fun b o e n x y => ?_, un.free, fun b o e y => ?_, un.tups, un.frzs, un.tbls⟩ (fun b o e => ?_) I.bare fun b hb => ⟨(f3 b hb).2.2.2.1, (f3 b hb).2.1, (f3 b hb).2.2.2.2.1, (f3 b hb).2.2.2.2.2⟩
    · obtain ⟨sl, q⟩ := un.slot b o e n x y
      exact ⟨sl, (k1 b (nC b o e)).trans q⟩
    · obtain ⟨o', q⟩ := un.there b o e y
      exact ⟨o', (k1 b (nC b o e)).trans q⟩
    · have hfreeC : H' ce.locals = none := I.free
      refine (I.hok b o e).stay (fun c u hc r => (k1 c fun z => ?_).trans r) (fun _ r => r) fun _ _ r => r
      rcases hc with hc | hc
      · rw [← hc, z, hfreeC] at e
        cases e
      · rw [z, hfreeC] at hc
        cases hc
  refine ⟨a, B2, { sI with heap := G2 }, pins, σ, H', cls, d, rfl, I3', fun b o e hb => ?_, fun b o e hnf => ?_, .inr (.inr ⟨t1, noB a b0, by rw [hs]; exact t2, t3⟩), na, os, ag, hE⟩
  · have nbC : b ≠ ce.locals := fun z => by
      have e : G2.get? b = some o := e
      rw [z, k2] at e
      cases e
    exact (g1 b nbC).trans (nb b o ((k1 b nbC).symm.trans e) hb)
  · have nbC : b ≠ ce.locals := fun z => by
      have e : G2.get? b = some o := e
      rw [z, k2] at e
      cases e
    obtain ⟨s1, e1⟩ := up b o ((k1 b nbC).symm.trans e) hnf
    obtain ⟨s2, e2⟩ := up1 b _ e1 hnf
    have e3 : h2.get? b = some { o with slots := s2 } := (hs2.2 b nbC).trans e2
    obtain ⟨s3, e4⟩ := t4 b { o with slots := s2 } e3 hnf
    exact ⟨s3, e4⟩
/-- {k: v for target in iter}, v a call that may raise: D the new dict -/
def tDcE (wi : TI) (g : TG) (tk tv : TE) (vs : List Nat) : TE := fun σ H Q => wi σ H fun J H1 => ∀ D, H1 D = none → ∃ W : Nat → Nat → Hp → Prop, (∃ m, W 0 m (upd H1 D (.dK []))) ∧ ∀ i m H, W i m H →
  (J.stop i H ∧ Q (.ref D) H) ∨ (J.go i H ∧ ∃ Nx : Hp → Prop, (∀ H', Nx H' → ∃ m', m' < m ∧ W (i + 1) m' H') ∧ ∀ x H', J.yld i H x H' → g x (wipe σ vs) H' fun σ2 H2 => wipe σ2 vs = wipe σ vs ∧
    tk σ2 H2 fun y H4 => tv σ2 H4 fun z H5 => ∃ kvs k, y = kV k ∧ H5 D = some (.dK kvs) ∧ kvs.length < sizeLine ∧ Nx (upd H5 D (.dK (putK kvs k z))))
theorem pe_dcE {kx vx tg iter : Expr} {scope : Scope} {own : List (Str × Nat)} {pos : Pos} {wi : TI} {g : TG} {tk tv : TE} (hc : X.calm = true) (hN : X.N.Nodup) (tk0 : Takes X (fun cls d _ H => E cls d H)) (hst : X.stack = X.env :: X.outer) (hf : X.env.frame = some X.env.locals)
    (hi : PI X tg iter wi) (ok : BlkOk X.N X.env.scope scope own) (hg : ∀ (s : Shared) (H : Hp) (C : Addr) (cl : List (Str × Addr)) (fp : List Addr), PG (X.blk s H scope (compEnvC scope cl C X.env) fp) tg g)
    (hk : ∀ (s : Shared) (H : Hp) (C : Addr) (cl : List (Str × Addr)) (fp : List Addr), PE (X.blk s H scope (compEnvC scope cl C X.env) fp) kx tk)
    (he : ∀ (s : Shared) (H : Hp) (C : Addr) (cl : List (Str × Addr)) (fp : List Addr) (xe : Value → Shared → Prop), Passes (L2.CX X.prog X.w) ((X.blk s H scope (compEnvC scope cl C X.env) fp).wish xe) E → PE ((X.blk s H scope (compEnvC scope cl C X.env) fp).wish xe) vx tv)
    (hsf : ∀ x, foldedSetIterable iter X.env x = pure x := by intro _; rfl) :
    PE X (.DictComp kx vx [⟨tg, iter, [], 0⟩] scope pos) (tDcE wi g tk tv (own.map (·.2))) := by
  refine ⟨fun pins s σ H Q I h => ?_⟩
  rw [arm_eval_DictComp]
  have hfree : ∀ y ∈ scope.names, y.2 = .free → ∃ c, X.env.cells.lookup y.1 = some c := fun y hy e =>
    (ok.free y hy e).elim (fun k => I.ok.has _ (.inl k)) fun k => I.ok.has _ (.inr k)
  refine comprehension_at (use := none) rfl hsf (closure_ok hfree) ok.kind (fun y hy e => by rw [ok.uniq y hy, e]) (thn (hi.run pins s σ H _ I h) fun xv s1 hx => thn hx fun itv s2 h2 => ?_)
  obtain ⟨it, fp, tn, J, H2, rfl, I2, T, st2, f2, q⟩ := h2
  refine wpAny_newObj_type (newEnv_comp ?_)
  obtain ⟨W, ⟨m0, w0⟩, turn⟩ := q s2.heap.objs.size (I2.hok.fresh (Nat.le_refl _))
  have I3 : Inv X pins σ (upd H2 s2.heap.objs.size (.dK [])) { s2 with heap := s2.heap.push { cls := .type "dict", data := .dict #[] } } :=
    I2.laid (t' := s2.toks) (fun b o e => Heap.get?_push_of_some _ e) (Nat.le_refl _) (dk_empty s2.heap I2.big)
  have small : ∀ b ∈ fp, b < s2.heap.objs.size := fun b hb => Heap.lt_size (T.obj _ _ st2 b hb).choose_spec.1
  have nD : ∀ b ∈ fp, b ≠ s2.heap.objs.size := fun b hb => Nat.ne_of_lt (small b hb)
  have f3 : ∀ b ∈ fp, FpOk X pins (upd H2 s2.heap.objs.size (.dK [])) b := fun b hb => ⟨by rw [upd_ne (nD b hb)]; exact (f2 b hb).1, (f2 b hb).2⟩
  have st3 : tn 0 (s2.heap.push { cls := .type "dict", data := .dict #[] }) := T.keep _ _ _ st2 fun b _ o e => Heap.get?_push_of_some _ e
  obtain ⟨D, hD⟩ : ∃ D, D = s2.heap.objs.size := ⟨_, rfl⟩
  obtain ⟨s3, hs3⟩ : ∃ s3 : Shared, s3 = { s2 with heap := s2.heap.push { cls := .type "dict", data := .dict #[] } } := ⟨_, rfl⟩
  obtain ⟨H3, hH3⟩ : ∃ H3 : Hp, H3 = upd H2 s2.heap.objs.size (.dK []) := ⟨_, rfl⟩
  have small3 : ∀ b ∈ fp, b < s3.heap.objs.size := fun b hb => by
    rw [hs3]
    exact Nat.lt_of_lt_of_le (small b hb) (by rw [Heap.size_push]; exact Nat.le_succ _)
  have st3 : tn 0 s3.heap := by rw [hs3]; exact st3
  rw [← hD] at turn
  rw [← hH3, ← hs3] at I3
  rw [← hH3] at f3 w0
  have I4 := block_start I3 ok hN fun b hb => ⟨f3 b hb, small3 b hb⟩
  obtain ⟨ce, hce⟩ : ∃ ce : Env, ce = compEnvC scope (cellsFrom (s3.heap.objs.size + 1) scope.names (cloFrom X.env.cells scope.names [])) s3.heap.objs.size X.env := ⟨_, rfl⟩
  obtain ⟨s4, hs4⟩ : ∃ s4 : Shared, s4 = { s3 with heap := pushCells (s3.heap.push { cls := .type "dict", data := .dict #[] }) scope.names } := ⟨_, rfl⟩
  have st4 : tn 0 s4.heap := T.keep _ _ _ st3 fun b _ o e => by rw [hs4]; exact pushCells_keeps _ _ _ _ (Heap.get?_push_of_some _ e)
  have pg := hg s3 H3 s3.heap.objs.size (cellsFrom (s3.heap.objs.size + 1) scope.names (cloFrom X.env.cells scope.names [])) fp
  have pk := hk s3 H3 s3.heap.objs.size (cellsFrom (s3.heap.objs.size + 1) scope.names (cloFrom X.env.cells scope.names [])) fp
  have pv' := he s3 H3 s3.heap.objs.size (cellsFrom (s3.heap.objs.size + 1) scope.names (cloFrom X.env.cells scope.names [])) fp
  have cL : ce.locals = s3.heap.objs.size := by rw [hce]; rfl
  have hcf : ce.frame = X.env.frame := by rw [hce]; rfl
  rw [← hce] at I4 pg pk pv'
  rw [← hs4] at I4
  rw [← hs3, ← hD]
  show codeAny _ _ (.compStart (.DictComp kx vx [⟨tg, iter, [], 0⟩] scope pos) 0 (.ref it) (.ref D) (compEnvC scope (cellsFrom (s3.heap.objs.size + 1) scope.names (cloFrom X.env.cells scope.names [])) s3.heap.objs.size X.env))
    (compEnds (model X.prog X.w) X.A X.xe none (EP X pins σ Q) (.ref D) (compEnvC scope (cellsFrom (s3.heap.objs.size + 1) scope.names (cloFrom X.env.cells scope.names [])) s3.heap.objs.size X.env)) { s3 with heap := pushCells (s3.heap.push { cls := .type "dict", data := .dict #[] }) scope.names }
  rw [← hce, ← hs4]
  have stat : ∀ {σ' : L2.St} {H' : Hp} {s' : Shared}, Inv (X.blk s3 H3 scope ce fp) [] σ' H' s' → (∀ b ∈ fp, H' b = none) → ∀ b ∈ fp, FpOk (X.blk s3 H3 scope ce fp) [] H' b := fun {σ' H' s'} I' hn b hb =>
    ⟨hn b hb, (I'.ok.exf b hb).1, I'.ok.exfs b hb, .inl hb, fun x c e => (I'.ok.exf b hb).2 x c e, fun p hp => absurd (show p ∈ ([] : List (Addr × Obj)) ++ [] from hp) (by simp)⟩
  have loop : codeAny (model X.prog X.w) X.A (.compLoop (.DictComp kx vx [⟨tg, iter, [], 0⟩] scope pos) 0 (.ref it) (.ref D) ce) (compEnds (model X.prog X.w) X.A X.xe none (EP X pins σ Q) (.ref D) ce) s4 := by
    refine compLoop_anyD (fun n s' => ∃ i H', Inv (X.blk s3 H3 scope ce fp) [] (wipe σ (own.map (·.2))) H' s' ∧ tn i s'.heap ∧ (∀ b ∈ fp, H' b = none) ∧ W i n H') ?_ m0 ⟨0, H3, I4, st4, fun b hb => (f3 b hb).1, w0⟩
    rintro n s5 ⟨i, H5, I5, st5, n5, w5⟩
    rcases turn i n H5 w5 with ⟨stop, qq⟩ | ⟨go, Nx, hNx, step⟩
    · refine thnF (T.done (X.blk s3 H3 scope ce fp) rfl rfl rfl hc i [] s5 _ H5 (fun _ _ => False) I5 (stat I5 n5) st5 stop) fun r s6 ⟨hr, I6⟩ => ?_
      subst hr
      have I7 : Inv X pins σ H5 s6 := I3.call' (ch := fp) I6.os I6.base I6.hok I6.bare fun b hb => ⟨(f3 b hb).2.2.2.1, (f3 b hb).2.1, (f3 b hb).2.2.2.2.1, (f3 b hb).2.2.2.2.2⟩
      have nC : H5 s3.heap.objs.size = none := by
        have z : H5 ce.locals = none := I6.free
        rw [cL] at z
        exact z
      obtain ⟨m, hn, _⟩ := I6.loc
      have hn : s6.heap.Ns ce.locals m := hn
      obtain ⟨g0, g1, g2, g3, g4, g5⟩ := I3.fpOk (Nat.le_refl _) nC
      exact ⟨m, hn, fun h' sb => ⟨.ref D, H5, I7.turned (t' := s6.toks) (fun b o hb e => (sb.2 b (by rw [cL]; exact hb)).trans e) g0 g1 g3 g4 g5, rfl, qq⟩⟩
    · refine thnF (T.item (X.blk s3 H3 scope ce fp) rfl rfl rfl hc i [] s5 _ H5 (fun _ _ => False) I5 (stat I5 n5) st5 go) fun r s6 ⟨u, hr, h6⟩ => ?_
      subst hr
      refine thnF h6 fun _ s7 ⟨x, H7, I7, r7, y7, st7, n7⟩ => ?_
      have I7' := I7.pinned (stat I7 n7) (T.obj _ _ st7)
      refine thnF (pg.run _ s7 _ H7 x u _ I7' r7 (step x H7 y7)) fun _ s8 ⟨σ8, H8, I8, hw8, q8⟩ => ?_
      refine wpAny_pure ?_
      simp only [if_true]
      refine thnF (pk.run _ s8 σ8 H8 _ I8 q8) fun z s10 ⟨yk, H10, I10, r10, q10⟩ => ?_
      have run := (pv' (notedBy (model X.prog X.w) X.A ce fun e s2 => compEnds (model X.prog X.w) X.A X.xe none (EP X pins σ Q) (.ref D) ce (.error e) s2) (fun pn σ' H' sx e sy Ix c => out tk0 hst hf hcf cL I3 f3 Ix c)).run _ s10 σ8 H10 _ (I10.wish _) q10
      refine wpAny_mono run (fun z2 s11 ⟨yv, H11, I11, r11, kvs, k, ek, hD11, hz11, nx⟩ => ?_) fun _ _ h => h
      subst ek
      refine d_dictSet (X := X.blk s3 H3 scope ce fp) I11.unwish hD11 hz11 r10 r11 fun s12 I12 => ?_
      obtain ⟨m', hm, w'⟩ := hNx _ nx
      have pin' : ∀ b ∈ fp, ∀ o, s7.heap.get? b = some o → s12.heap.get? b = some o ∧ upd H11 D (.dK (putK kvs k yv)) b = none := fun b hb o e =>
        let z := I12.pin (b, o) (List.mem_append_right _ (List.mem_append_right _ (mem_pinsAt hb e)))
        ⟨z.1, z.2.1⟩
      have hl : (wipe σ (own.map (·.2))).length = σ8.length := by rw [← hw8, wipe_length]
      refine ⟨m', hm, i + 1, _, (I12.unpinned (pins := [])).weak hl (fun j v e => ?_), T.keep _ _ _ st7 fun b hb o e => (pin' b hb o e).1, fun b hb => ?_, w'⟩
      · rw [← hw8] at e
        exact (wipe_some e).1
      · obtain ⟨o, e, _⟩ := T.obj _ _ st7 b hb
        exact (pin' b hb o e).2
  exact codeAny_compStart_dict loop (T.self X.A 0 _ _ _ st4 loop)
/-- over a list that stays -/
theorem dce_list {K : PySem.W.Frag} {a : Addr} {xs : List V} {g : TG} {tk tv : TE} {vs : List Nat} {σ : L2.St} {H1 : Hp} {D : Addr} {Qd : Hp → Prop} (Pv : Nat → Hp → Prop) (h0 : Pv 0 (upd H1 D (.dK []))) (hl : ∀ i H, i ≤ xs.length → Pv i H → SqL K H a xs)
    (hs : ∀ i x H, xs[i]? = some x → Pv i H → g x (wipe σ vs) H fun σ2 H2 => wipe σ2 vs = wipe σ vs ∧ tk σ2 H2 fun y H4 => tv σ2 H4 fun z H5 => ∃ kvs k, y = kV k ∧ H5 D = some (.dK kvs) ∧ kvs.length < sizeLine ∧ Pv (i + 1) (upd H5 D (.dK (putK kvs k z)))) (hd : ∀ H, Pv xs.length H → Qd H) :
    ∃ W : Nat → Nat → Hp → Prop, (∃ m, W 0 m (upd H1 D (.dK []))) ∧ ∀ i m H, W i m H → ((Itl K a).stop i H ∧ Qd H) ∨ ((Itl K a).go i H ∧ ∃ Nx : Hp → Prop, (∀ H', Nx H' → ∃ m', m' < m ∧ W (i + 1) m' H') ∧
      ∀ x H', (Itl K a).yld i H x H' → g x (wipe σ vs) H' fun σ2 H2 => wipe σ2 vs = wipe σ vs ∧ tk σ2 H2 fun y H4 => tv σ2 H4 fun z H5 => ∃ kvs k, y = kV k ∧ H5 D = some (.dK kvs) ∧ kvs.length < sizeLine ∧ Nx (upd H5 D (.dK (putK kvs k z)))) := by
  refine ⟨fun i m H => m + i = xs.length ∧ Pv i H, ⟨xs.length, rfl, h0⟩, fun i m H ⟨hm, p⟩ => ?_⟩
  have q := hl i H (by omega) p
  by_cases hi : i < xs.length
  · refine .inr ⟨⟨xs, xs[i], q, List.getElem?_eq_getElem hi⟩, Pv (i + 1), fun H' p' => ⟨m - 1, by omega, by omega, p'⟩, fun x H' ⟨e, y⟩ => ?_⟩
    subst e
    exact hs i x _ (y xs q) p
  · have e : i = xs.length := by omega
    subst e
    exact .inl ⟨⟨xs, q, Nat.le_refl _⟩, hd H p⟩
end
end DcE
set_option Elab.async false
set_option linter.all false
set_option maxRecDepth 100000
set_option maxHeartbeats 4000000
namespace DcE
open PySem PySem.Spec PyProof.Rows L2
/-- {k: v}, k a tuple of ints and texts -/
def postT (p : Addr) (Q : VK) : List (V × V) → Hp → Prop := fun ps H2 => H2 p = some (.dT []) ∧ ∃ (b : Addr) (ks : List Key) (y : V), ps = [(.ref b, y)] ∧ H2 b = some (.tup (ks.map kV)) ∧ Q (.ref p) (upd H2 p (.dT [(ks, y)]))
def tDispT (tk tv : TE) : TE := fun σ H Q => ∀ p, H p = none → tPairs [(tk, tv)] σ (upd H p (.dT [])) (postT p Q)
theorem pe_dispT {X : Cx} {k v : Expr} {pos : Pos} {tk tv : TE} (hu : X.A.units + 1 < cLine) (hk : PE X k tk) (hv : PE X v tv) : PE X (.Dict [some k] [v] pos) (tDispT tk tv) := by
  refine ⟨fun pins s σ H Q I q => ?_⟩
  have hn := I.hok.fresh (Nat.le_refl s.heap.objs.size)
  have I1 := I.laid (a := s.heap.objs.size) (o := .dT []) (h' := s.heap.push { cls := .type "dict", data := .dict #[] }) (t' := s.toks) (fun _ _ z => Heap.get?_push_of_some _ z) (Nat.le_refl _) (dt_empty s.heap I.big)
  rw [arm_eval_Dict, zip_pairTrees [some k] [v] X.env pos rfl rfl, dictDisplay_pairs _ (by intro z; cases z) (by show 1 < _; decide)]
  refine wpAny_bind (wpAny_standAt (wpAny_bind (wpAny_subDictH (knd := tupleKind (mixKind X.prog X.w)) (Q := fun d s' => wpAny (model X.prog X.w) X.A (pure (Value.ref d)) (EP X pins σ Q) X.xe s') ?_ (by show 1 ≤ 15; decide) (thn ((pps_cons hk hv pps_nil).run pins _ σ _ _ I1 (q _ hn)) fun ws s2 h2 => ?_))))
  · exact (show X.A.units < cLine by omega)
  · obtain ⟨ps, H2, I2, rel, e, b, ks, y, rfl, eb, q2⟩ := h2
    cases rel with
    | cons r1 r2 =>
      rename_i vk ws'
      cases r2
      obtain ⟨u1, u2⟩ := vk
      obtain ⟨rk, rv⟩ := r1
      have ek : u1 = Value.ref b := rk
      subst ek
      obtain ⟨z, hd, xs, rel, dd⟩ := dt_of I2.hok e
      cases rel
      refine ⟨[(ks, b, u2)], ⟨rfl, rfl, key_of I2.hok eb, True.intro⟩, dd, fun h' tk dd' hs => wpAny_pure ⟨.ref s.heap.objs.size, _, ?_, rfl, q2⟩⟩
      obtain ⟨o, es, ep, ho, h2, h3, h4, _, h5⟩ := dd'
      refine d_write I2 (by rw [e]; exact True.intro) hs ⟨o, ho⟩ ⟨by show 1 ≤ sizeLine; decide, hd, [(ks, b, u2)], .cons ⟨rfl, ?_, rv⟩ .nil, o, es, ep, ho, h2, h3, h4, h5⟩
      rw [upd_ne (ne_of eb e (fun z => nomatch z))]
      exact eb
end DcE
set_option Elab.async false
set_option linter.all false
set_option maxRecDepth 100000
namespace Tx
open PySem PySem.Spec PyProof.Rows L2
/-! ### the text by places -/
def topS (i : Nat) : Stmt := PySem.Challenge.pw_spreadmounts_k14_what_is_no_deed.main.body.getD i (.Pass ⟨0, 0, 0, 0⟩)
abbrev sWhole : Stmt := topS 28
abbrev sName : Stmt := topS 29
abbrev sPath : Stmt := topS 30
abbrev sAbs : Stmt := topS 31
abbrev sNode : Stmt := topS 33
abbrev sTree : Stmt := topS 34
abbrev sEntry : Stmt := topS 44
abbrev sIsDeed : Stmt := topS 45
abbrev sDoMount : Stmt := topS 48
abbrev sMakeDeed : Stmt := topS 67
abbrev sSureDeed : Stmt := topS 68
abbrev sMountC : Stmt := topS 70
abbrev sTableC : Stmt := topS 71
abbrev sAreTrees : Stmt := topS 73
abbrev sWorldC : Stmt := topS 74
abbrev sLabelsC : Stmt := topS 76
abbrev sCell : Stmt := topS 78
abbrev sDigit : Stmt := topS 79
abbrev sLTree : Stmt := topS 80
abbrev sNamed : Stmt := topS 81
abbrev sGood : Stmt := topS 82
abbrev sBent : Stmt := topS 83
abbrev sLaw : Stmt := topS 84
end Tx
set_option Elab.async false
set_option linter.all false
set_option maxRecDepth 100000
set_option maxHeartbeats 4000000
namespace Tx
open PySem PySem.Spec PyProof.Rows L2 Cm
/-! ### whole numbers, names, paths -/
inductive Wh (K : PySem.W.Frag) (H : Hp) : V → Int → Int → Bool → Prop
  | int (i lo hi : Int) : Wh K H (.int i) lo hi (decide (lo ≤ i) && decide (i ≤ hi))
  | bl (b : Bool) (lo hi : Int) : Wh K H (.bl b) lo hi false
  | other {x : V} {n : String} (lo hi : Int) (ty : TyX K H x (.type n)) (h : kitB n "int" = some false) : Wh K H x lo hi false
def spWhole (K : PySem.W.Frag) : Sp := fun vs H Q _ => ∃ x lo hi b, vs = [x, .int lo, .int hi] ∧ Wh K H x lo hi b ∧ Q (.bl b) H
def letters : Str := "abcdefghijklmnopqrstuvwxyz"
def signB (c : Nat) : Bool := decide (c ∈ letters.cps.toList)
def nameB (z : Str) : Bool := decide (1 ≤ (z.length : Int)) && (decide ((z.length : Int) ≤ 8) && (z.cps.toList.map signB).all id)
def dots : List V := [.str ".", .str ".."]
def wordB (z : Str) : Bool := inV (.str z) dots || nameB z
def wordsOf (z : Str) : List Str := Txt.split (Txt.removeprefix z "/") "/"
def pathB (z : Str) : Bool := if z = "" then false else if z = "/" then true else ((wordsOf z).map wordB).all id
/-- a text, or something else -/
inductive Tn (K : PySem.W.Frag) (H : Hp) (f : Str → Bool) : V → Bool → Prop
  | str (z : Str) (h : z.length ≤ 100000) : Tn K H f (.str z) (f z)
  | other {x : V} {n : String} (ty : TyX K H x (.type n)) (h : kitB n "str" = some false) : Tn K H f x false
def spName (K : PySem.W.Frag) : Sp := fun vs H Q _ => ∃ x b, vs = [x] ∧ Tn K H nameB x b ∧ ∀ H', Same H H' → Q (.bl b) H'
def spPath (K : PySem.W.Frag) : Sp := fun vs H Q _ => ∃ x b, vs = [x] ∧ Tn K H pathB x b ∧ ∀ H', Same H H' → Q (.bl b) H'
/-- the names that stand as built-ins -/
structure Bi (mg : Str → Option Value) : Prop where
  isin : mg "isinstance" = none
  int : mg "int" = none
  bool : mg "bool" = none
  str : mg "str" = none
  dict : mg "dict" = none
  tuple : mg "tuple" = none
  range : mg "range" = none
  len : mg "len" = none
  all : mg "all" = none
  any : mg "any" = none
  sorted : mg "sorted" = none
/-- the constants -/
structure Co (mg : Str → Option Value) : Prop where
  letters : ∃ t, mg "LETTERS" = some (.str letters t)
  nodes : ∃ t, mg "MOST_NODES" = some (.int 60 t)
  depth : ∃ t, mg "MOST_DEPTH" = some (.int 8 t)
theorem scWhole : FnScope ["thing", "low", "high"] ["thing", "low", "high"] (defScope sWhole) := ⟨rfl, rfl, rfl, by decide +kernel, rfl, by decide +kernel, by decide +kernel⟩
theorem scName : FnScope ["thing", "sign"] ["thing"] (defScope sName) := ⟨rfl, rfl, rfl, by decide +kernel, rfl, by decide +kernel, by decide +kernel⟩
theorem scPath : FnScope ["thing", "words", "word"] ["thing"] (defScope sPath) := ⟨rfl, rfl, rfl, by decide +kernel, rfl, by decide +kernel, by decide +kernel⟩
theorem take_snoc {α : Type} {l : List α} {i : Nat} {x : α} (h : l[i]? = some x) : l.take (i + 1) = l.take i ++ [x] := by
  rw [List.take_add_one, h]
  rfl
section
variable {P : Program} {w : World} {K : PySem.W.Frag} {mg : Str → Option Value} {base : Heap}
theorem ok_whole {f : Addr} {fd : FuncData} {k : Nat} (F : Fun K "is_whole" "is_whole" sWhole f fd) (B : Bi mg) : FnOk P w K mg base CX0 (k + 1) f fd ["thing", "low", "high"] (spWhole K) := by
  refine F.ok scWhole (fun vs H Q E h => ?_) (fun cdv A outer s H vs Q E hr h => ?_)
  · obtain ⟨x, lo, hi, b, rfl, _⟩ := h
    rfl
  · obtain ⟨x, lo, hi, b, rfl, hw, q⟩ := h
    refine ⟨_, pss_one (ps_ret (pe_and (pe_callB call_isi (by rfl) B.isin (by decide +kernel) (pa_cons (pv 0) (pa_cons (pe_bltn (v := .ty "int") (by rfl) B.int (by decide +kernel) rfl) pa_nil)))
      (pe_and (pe_not (pe_callB call_isi (by rfl) B.isin (by decide +kernel) (pa_cons (pv 0) (pa_cons (pe_bltn (v := .ty "bool") (by rfl) B.bool (by decide +kernel) rfl) pa_nil))))
        (pe_one (pe_chain op_le op_le (pv 1) (pv 0) (pv 2)))))), ?_⟩
    cases hw with
    | int i =>
      refine ⟨_, rfl, _, .ty "int", _, _, true, rfl, .ty _, .base (.int i), kit_ty (by decide +kernel), _, rfl, iteT ?_⟩
      refine ⟨_, rfl, _, .ty "bool", _, _, false, rfl, .ty _, .base (.int i), kit_ty (by decide +kernel), _, rfl, _, rfl, iteT ?_⟩
      refine ⟨_, rfl, _, rfl, _, _, rfl, rfl, _, rfl, ite2 (fun h => ?_) (fun h => ?_)⟩
      · refine ⟨_, rfl, _, _, rfl, rfl, ?_⟩
        rw [h] at q
        exact q
      · have h' : decide (lo ≤ i) = false := by simpa using h
        rw [h'] at q
        exact q
    | bl b =>
      refine ⟨_, rfl, _, .ty "int", _, _, true, rfl, .ty _, .base (.bl b), kit_ty (by decide +kernel), _, rfl, iteT ?_⟩
      refine ⟨_, rfl, _, .ty "bool", _, _, true, rfl, .ty _, .base (.bl b), kit_ty (by decide +kernel), _, rfl, _, rfl, iteF ?_⟩
      exact q
    | other _ _ ty hn =>
      exact ⟨_, rfl, _, .ty "int", _, _, false, rfl, .ty _, ty, kit_ty hn, _, rfl, iteF q⟩
/-- [sign in LETTERS for sign in z]: what the list holds -/
theorem signs_at (z : Str) {i : Nat} {c : Nat} (h : z.cps[i]? = some c) : (z.cps.toList.map signB)[i]? = some (signB c) := by
  rw [List.getElem?_map, Array.getElem?_toList, h]
  rfl
theorem ok_name {f : Addr} {fd : FuncData} {k : Nat} (F : Fun K "is_name" "is_name" sName f fd) (B : Bi mg) (C : Co mg) : FnOk P w K mg base CX0 (k + 1) f fd ["thing"] (spName K) := by
  obtain ⟨tl, hL⟩ := C.letters
  refine F.ok scName (fun vs H Q E h => ?_) (fun cdv A outer s H vs Q E hr h => ?_)
  · obtain ⟨x, b, rfl, _⟩ := h
    rfl
  · obtain ⟨x, b, rfl, hw, q⟩ := h
    refine ⟨_, pss_one (ps_ret (pe_and (pe_callB call_isi (by rfl) B.isin (by decide +kernel) (pa_cons (pv 0) (pa_cons (pe_bltn (v := .ty "str") (by rfl) B.str (by decide +kernel) rfl) pa_nil)))
      (pe_and (pe_chain op_le op_le pe_int (pe_callB call_len_str (by rfl) B.len PySem.boot_len (pa_cons (pv 0) pa_nil)) pe_int)
        (pe_one (pe_callB (cr_all rfl) (by rfl) B.all (by decide +kernel) (pa_cons (pe_lc (own := [("sign", 1)]) (g := gName 1) (tt := tYes) (by rfl) scName.nd (pi_str (pv 0)) (blkOk_by (own := [("sign", 1)]) (N := ["thing", "sign"]) (sc := defScope sName) (by decide +kernel)) (fun _ _ _ _ _ => pg_name (i := 1) scName.nd rfl (Or.inl rfl)) (fun _ _ _ _ _ => pts_nil)
          (fun _ _ _ _ _ => pe_cmpR op_in_sign (pv 1) (pe_glob (v := .str letters) (by rfl) hL ⟨_, rfl⟩) rfl)) pa_nil)))))), ?_⟩
    cases hw with
    | other ty hn => exact ⟨_, rfl, _, .ty "str", _, _, false, rfl, .ty _, ty, kit_ty hn, _, rfl, iteF (q H (Same.refl H))⟩
    | str z hz =>
      refine ⟨_, rfl, _, .ty "str", _, _, true, rfl, .ty _, .base (.str z), kit_ty (by decide +kernel), _, rfl, iteT ?_⟩
      refine ⟨_, rfl, z, rfl, Evl.sz_of hz, 1, _, rfl, rfl, _, rfl, ite2 (fun h1 => ?_) (fun h1 => ?_)⟩
      · refine ⟨_, _, rfl, rfl, _, rfl, ite2 (fun h2 => ?_) (fun h2 => ?_)⟩
        · refine ⟨_, rfl, z, rfl, fun D hD => lc_it walk_str (fun i H' => H' D = some (.lst (((z.cps.toList.map signB).take i).map V.bl)) ∧ Same H H') ⟨upd_same, same_new hD⟩ (fun _ _ _ _ => True.intro) ?_ ?_⟩
          · rintro i x H1 H2 hi ⟨h3, sm⟩ ⟨rfl, c, hc, rfl⟩
            refine ⟨rfl, _, rfl, c, letters, rfl, rfl, _, h3, Evl.sz_lt ?_, ?_, same_mut hD sm⟩
            · rw [List.length_map, List.length_take]
              exact Nat.lt_of_le_of_lt (Nat.min_le_left _ _) (Nat.lt_of_lt_of_le hi hz)
            · rw [upd_same, take_snoc (signs_at z hc), List.map_append]
              rfl
          · rintro H1 ⟨h3, sm⟩
            have e : (z.cps.toList.map signB).take z.cps.size = z.cps.toList.map signB := List.take_of_length_le (by rw [List.length_map, Array.length_toList]; exact Nat.le_refl _)
            rw [e] at h3
            refine ⟨D, _, rfl, SqL.of h3, ?_⟩
            have eb : nameB z = (z.cps.toList.map signB).all id := by
              unfold nameB
              rw [h1, h2, Bool.true_and, Bool.true_and]
            rw [← eb]
            exact q H1 sm
        · have eb : nameB z = false := by
            unfold nameB
            have h2' : decide ((z.length : Int) ≤ 8) = false := by simpa using h2
            rw [h2', Bool.false_and, Bool.and_false]
          rw [eb] at q
          exact q H (Same.refl H)
      · have eb : nameB z = false := by
          unfold nameB
          have h1' : decide (1 ≤ (z.length : Int)) = false := by simpa using h1
          rw [h1', Bool.false_and]
        rw [eb] at q
        exact ⟨_, rfl, iteF (q H (Same.refl H))⟩
theorem prefix_le (z : Str) : (Txt.removeprefix z "/").length ≤ z.length := by
  rw [StrLaws.removeprefix_eq]
  split
  · show (((z.cps.toList.drop _).take _).toArray).size ≤ z.cps.size
    rw [List.size_toArray, List.length_take, List.length_drop, Array.length_toList]
    omega
  · exact Nat.le_refl _
theorem opInK {X : Cx} {K : PySem.W.Frag} (h : X.K = K) : OpR X (compareOp .In) (rIn K false) := h ▸ op_in_seq
theorem ok_path {f fN : Addr} {fd fdN : FuncData} {k : Nat} (F : Fun K "is_path" "is_path" sPath f fd) (B : Bi mg) (N : Cl P w K mg base CX0 (k + 1) "is_name" ["thing"] (spName K)) : FnOk P w K mg base CX0 (k + 2) f fd ["thing"] (spPath K) := by
  refine F.ok scPath (fun vs H Q E h => ?_) (fun cdv A outer s H vs Q E hr h => ?_)
  · obtain ⟨x, b, rfl, _⟩ := h
    rfl
  · obtain ⟨x, b, rfl, hw, q⟩ := h
    refine ⟨_, pss_cons (ps_if (PW.pt (pw_or (pt_not (pt_val (pe_callB call_isi (by rfl) B.isin (by decide +kernel) (pa_cons (pv 0) (pa_cons (pe_bltn (v := .ty "str") (by rfl) B.str (by decide +kernel) rfl) pa_nil))))) (pw_or1 (pt_cmpR op_eq (pv 0) pe_str (nomark _))))) (pss_one (ps_ret pe_bl)) pss_nil)
      (pss_cons (ps_if (pt_cmpR op_eq (pv 0) pe_str (nomark _)) (pss_one (ps_ret pe_bl)) pss_nil)
      (pss_cons (ps_set (i := 1) scPath.nd rfl (.inl rfl) (pe_split (pe_bm PySem.F.plainAttrs_str PySem.F.slot_str_removeprefix PySem.F.type_str_removeprefix mt_removeprefix (pv 0) (pa_cons pe_str pa_nil)) pe_str))
      (pss_one (ps_ret (pe_callB (cr_all rfl) (by rfl) B.all (by decide +kernel) (pa_cons (pe_lc (own := [("word", 2)]) (g := gName 2) (tt := tYes) (by rfl) scPath.nd (pi_list (pv 1)) (blkOk_by (own := [("word", 2)]) (N := ["thing", "words", "word"]) (sc := defScope sPath) (by decide +kernel)) (fun _ _ _ _ _ => pg_name (i := 2) scPath.nd rfl (Or.inl rfl)) (fun _ _ _ _ _ => pts_nil)
          (fun _ _ _ _ _ => pe_or (pe_cmpR (opInK (K := K) rfl) (pv 2) (pe_tup (pa_cons pe_str (pa_cons pe_str pa_nil))) (by rfl)) (pe_one (pe_cl N hr (by omega) (by rfl) pass0 (pa_cons (pv 2) pa_nil))))) pa_nil)))))), ?_⟩
    cases hw with
    | other ty hn => exact ⟨_, rfl, _, .ty "str", _, _, false, rfl, .ty _, ty, kit_ty hn, _, rfl, iteT (iteT (q H (Same.refl H)))⟩
    | str z hz =>
      refine ⟨_, rfl, _, .ty "str", _, _, true, rfl, .ty _, .base (.str z), kit_ty (by decide +kernel), _, rfl, iteF ?_⟩
      refine ⟨_, rfl, rfl, _, rfl, ?_⟩
      by_cases e0 : z = ""
      · have eb : pathB z = false := by
          unfold pathB
          rw [if_pos e0]
        rw [eb] at q
        subst e0
        exact iteT (q H (Same.refl H))
      · rw [decide_eq_false (show ¬ V.str z = V.str "" from fun h => e0 (V.str.inj h))]
        refine iteF ⟨_, rfl, rfl, _, rfl, ?_⟩
        by_cases e1 : z = "/"
        · have eb : pathB z = true := by
            unfold pathB
            rw [if_neg e0, if_pos e1]
          rw [eb] at q
          subst e1
          exact iteT (q H (Same.refl H))
        · have eb : pathB z = ((wordsOf z).map wordB).all id := by
            unfold pathB
            rw [if_neg e0, if_neg e1]
          rw [decide_eq_false (show ¬ V.str z = V.str "/" from fun h => e1 (V.str.inj h))]
          refine iteF ⟨_, rfl, rfl, z, _, rfl, rfl, Evl.sz_of hz, ⟨_, rfl⟩, _, _, rfl, rfl, rfl, Nat.le_trans (show _ ≤ 100002 from Nat.add_le_add_right (Nat.le_trans (prefix_le z) hz) 2) (by decide), fun p hp => ?_⟩
          have hall : ∀ v ∈ wordsOf z, v.length ≤ 100000 := fun v hv => Nat.le_trans (part_short hv) (Nat.le_trans (prefix_le z) hz)
          have hlen : (wordsOf z).length < 200000 := Nat.lt_of_le_of_lt (split_le _ _) (Nat.lt_of_le_of_lt (Nat.add_le_add_right (Nat.le_trans (prefix_le z) hz) 2) (by decide))
          refine ⟨_, rfl, p, rfl, ⟨_, SqL.of upd_same⟩, fun D hD => lc_list (K := K) (a := p) (xs := (wordsOf z).map V.str) (fun i H' => H' D = some (.lst ((((wordsOf z).map wordB).take i).map V.bl)) ∧ H' p = some (.lst ((wordsOf z).map V.str)) ∧ Same H H') ⟨upd_same, by rw [upd_ne (ne_of_none upd_same hD)]; exact upd_same, (same_new hp).trans (same_new hD)⟩ (fun i H' _ h => SqL.of h.2.1) ?_ ?_⟩
          · rintro i x H1 hx ⟨h3, h4, sm⟩
            rw [List.getElem?_map] at hx
            cases ew : (wordsOf z)[i]? with
            | none =>
              rw [ew] at hx
              cases hx
            | some wd =>
              rw [ew] at hx
              cases hx
              have hi := (List.getElem?_eq_some_iff.mp ew).1
              have hD0 : H D = none := (same_new hp).free hD
              have np : p ≠ D := ne_of_none (show upd H p _ p = some _ from upd_same) hD
              have fin : ∀ H2, Same H1 H2 → (∃ acc, H2 D = some (.lst acc) ∧ acc.length < sizeLine ∧ upd H2 D (.lst (acc ++ [V.bl (wordB wd)])) D = some (.lst ((((wordsOf z).map wordB).take (i + 1)).map V.bl)) ∧ upd H2 D (.lst (acc ++ [V.bl (wordB wd)])) p = some (.lst ((wordsOf z).map V.str)) ∧ Same H (upd H2 D (.lst (acc ++ [V.bl (wordB wd)])))) := fun H2 s2 => by
                have eg : ((wordsOf z).map wordB)[i]? = some (wordB wd) := by
                  rw [List.getElem?_map, ew]
                  rfl
                refine ⟨_, s2 _ _ h3, Nat.lt_of_lt_of_le (show _ < 200000 from ?_) (by decide), ?_, ?_, same_mut hD0 (sm.trans s2)⟩
                · rw [List.length_map, List.length_take, List.length_map]
                  omega
                · rw [upd_same, take_snoc eg, List.map_append]
                  rfl
                · rw [upd_ne np]
                  exact s2 _ _ h4
              refine ⟨rfl, _, rfl, (by show 2 ≤ sizeLine; decide), fun t ht => ?_⟩
              refine ⟨t, dots, rfl, .inr (SqT.of upd_same), rfl, rfl, _, rfl, ite2 (fun c => ?_) (fun c => ?_)⟩
              · have ew1 : wordB wd = true := by
                  unfold wordB
                  rw [show inV (.str wd) dots = true from c, Bool.true_or]
                have := fin _ (same_new (o := HO.tup dots) ht)
                rw [ew1] at this
                exact this
              · have c' : inV (.str wd) dots = false := by simpa using c
                have ew1 : wordB wd = nameB wd := by
                  unfold wordB
                  rw [c', Bool.false_or]
                refine ⟨_, rfl, _, _, rfl, .str wd (hall wd (List.mem_of_getElem? ew)), fun H2 s2 => ?_⟩
                have := fin _ ((same_new (o := HO.tup dots) ht).trans s2)
                rw [ew1] at this
                exact this
          · rintro H1 ⟨h3, h4, sm⟩
            have e : ((wordsOf z).map wordB).take ((wordsOf z).map V.str).length = (wordsOf z).map wordB := List.take_of_length_le (by rw [List.length_map, List.length_map]; exact Nat.le_refl _)
            rw [e] at h3
            refine ⟨D, _, rfl, SqL.of h3, ?_⟩
            rw [← eb]
            exact q H1 sm
end
end Tx
set_option Elab.async false
set_option linter.all false
set_option maxRecDepth 100000
set_option maxHeartbeats 4000000
namespace Tx
open PySem PySem.Spec PyProof.Rows L2 Cm
/-! ### nodes as data -/
inductive Nd where
  | fil (i : Int)
  | lnk (z : Str)
  | dir (ks : List (Str × Nd))
/-- v stands for t in the dicts of H -/
inductive NdAt (H : Hp) : V → Nd → Prop
  | fil (i : Int) : NdAt H (.int i) (.fil i)
  | lnk (z : Str) (hz : z.length ≤ 100000) : NdAt H (.str z) (.lnk z)
  | dir {a : Addr} {kvs : List (Key × V)} {ks : List (Str × Nd)} (h : H a = some (.dK kvs)) (hk : kvs.map (·.1) = ks.map fun p => (Sum.inr p.1 : Key)) (hn : (ks.map (·.1)).Nodup) (hl : ks.length < 64) (hz : ∀ p ∈ ks, p.1.length ≤ 100000)
      (hv : ∀ (i : Nat) (kv : Key × V) (p : Str × Nd), kvs[i]? = some kv → ks[i]? = some p → NdAt H kv.2 p.2) : NdAt H (.ref a) (.dir ks)
/-- the dicts stay -/
def DKeep (H H' : Hp) : Prop := ∀ b kvs, H b = some (.dK kvs) → H' b = some (.dK kvs)
theorem NdAt.mono {H H' : Hp} {v : V} {t : Nd} (h : NdAt H v t) (k : DKeep H H') : NdAt H' v t := by
  induction h with
  | fil i => exact .fil i
  | lnk z hz => exact .lnk z hz
  | dir h hk hn hl hz _ ih => exact .dir (k _ _ h) hk hn hl hz ih
theorem DKeep.same {H H' : Hp} (s : Same H H') : DKeep H H' := fun b _ h => s b _ h
theorem DKeep.but {H H' : Hp} {m : Addr} {o : HO} (b : But m H H') (hm : H m = some o) (ho : ∀ kvs, o ≠ .dK kvs) : DKeep H H' := fun c kvs h => b c _ (fun z => by
  rw [z, hm] at h
  exact ho kvs (Option.some.inj h)) h
theorem DKeep.trans {H H1 H2 : Hp} (a : DKeep H H1) (b : DKeep H1 H2) : DKeep H H2 := fun c kvs h => b c kvs (a c kvs h)
/-- what has come since H -/
def newIn (H H' : Hp) : Hp := fun b => match H b with | none => H' b | some _ => none
theorem newIn_of {H H' : Hp} {b : Addr} (h : H b = none) : newIn H H' b = H' b := by
  unfold newIn
  rw [h]
theorem newIn_some {H H' : Hp} {b : Addr} {o : HO} (h : newIn H H' b = some o) : H b = none ∧ H' b = some o := by
  unfold newIn at h
  cases e : H b with
  | none =>
    rw [e] at h
    exact ⟨rfl, h⟩
  | some u =>
    rw [e] at h
    cases h
theorem newIn_keep (H H' : Hp) : DKeep (newIn H H') H' := fun _ _ h => (newIn_some h).2
/-- what came in a part has come in the whole -/
theorem newIn_part {H H1 H2 H3 : Hp} (a : ∀ b o, H b = some o → ∃ u, H1 b = some u) (k : ∀ b kvs, H1 b = none → H2 b = some (.dK kvs) → H3 b = some (.dK kvs)) : DKeep (newIn H1 H2) (newIn H H3) := fun b kvs h => by
  obtain ⟨h1, h2⟩ := newIn_some h
  have h0 : H b = none := by
    cases e : H b with
    | none => rfl
    | some o =>
      obtain ⟨u, z⟩ := a b o e
      rw [z] at h1
      cases h1
  rw [newIn_of h0]
  exact k b kvs h1 h2
/-! ### names in order -/
def leS (a b : Str) : Bool := decide (a.cps.toList ≤ b.cps.toList)
def sortK (ks : List (Str × Nd)) : List (Str × Nd) := ks.mergeSort fun a b => leS a.1 b.1
theorem leS_trans (a b c : Str) (h1 : leS a b = true) (h2 : leS b c = true) : leS a c = true := by
  unfold leS at *
  simp only [decide_eq_true_eq] at *
  exact List.le_trans h1 h2
theorem leS_total (a b : Str) : (leS a b || leS b a) = true := by
  unfold leS
  simp only [Bool.or_eq_true, decide_eq_true_eq]
  exact List.le_total _ _
theorem leS_anti (a b : Str) (h1 : leS a b = true) (h2 : leS b a = true) : a = b := by
  unfold leS at *
  simp only [decide_eq_true_eq] at *
  exact TL.ext_tl (List.le_antisymm h1 h2)
theorem rising_le : ∀ (r : List Str) (x : Str), risingS x r = true → (x :: r).Pairwise fun a b => leS a b = true
  | [], x, _ => List.pairwise_singleton _ _
  | y :: r, x, h => by
    unfold risingS at h
    rw [Bool.and_eq_true, ltCps_eq] at h
    have h1 : leS x y = true := by
      unfold leS
      have z : ¬ y.cps.toList < x.cps.toList := by simpa using h.1
      rw [decide_eq_true_eq]
      exact z
    have ih := rising_le r y h.2
    refine List.pairwise_cons.mpr ⟨fun b hb => ?_, ih⟩
    rcases List.mem_cons.mp hb with e | e
    · rw [e]
      exact h1
    · exact leS_trans x y b h1 (List.rel_of_pairwise_cons ih e)
theorem sortK_names {ks : List (Str × Nd)} {ys : List Str} (hp : ys.Perm (ks.map (·.1))) (hs : sortedS ys = true) : ys = (sortK ks).map (·.1) := by
  have p1 : ys.Pairwise fun a b => leS a b = true := by
    cases ys with
    | nil => exact List.Pairwise.nil
    | cons x r => exact rising_le r x hs
  have p2 : ((sortK ks).map (·.1)).Pairwise fun a b => leS a b = true := by
    rw [List.pairwise_map]
    exact List.pairwise_mergeSort (le := fun a b : Str × Nd => leS a.1 b.1) (fun a b c => leS_trans _ _ _) (fun a b => leS_total _ _) ks
  refine List.Perm.eq_of_pairwise (fun a b _ _ h1 h2 => leS_anti a b h1 h2) p1 p2 (hp.trans ?_)
  exact ((List.mergeSort_perm ks _).map _).symm
theorem sortK_mem {ks : List (Str × Nd)} {p : Str × Nd} : p ∈ sortK ks ↔ p ∈ ks := (List.mergeSort_perm ks _).mem_iff
theorem sortK_len (ks : List (Str × Nd)) : (sortK ks).length = ks.length := (List.mergeSort_perm ks _).length_eq
theorem sortK_nodup {ks : List (Str × Nd)} (h : (ks.map (·.1)).Nodup) : ((sortK ks).map (·.1)).Nodup := ((List.mergeSort_perm ks _).map _).nodup_iff.mpr h
/-! ### what node_value makes of a datum: with g levels left, n nodes met -/
def nvs (f : Nd → Nat → Option (Nd × Nat)) : List (Str × Nd) → Nat → Option (List (Str × Nd) × Nat)
  | [], n => some ([], n)
  | p :: r, n => match f p.2 n with
    | none => none
    | some (t, m) => match nvs f r m with
      | none => none
      | some (r', m') => some ((p.1, t) :: r', m')
def wholeB (i : Int) : Bool := decide (1 - 10 ^ 60 ≤ i) && decide (i ≤ 10 ^ 60 - 1)
def nv : Nat → Nd → Nat → Option (Nd × Nat)
  | 0, _, _ => none
  | g + 1, t, n => if 61 < n + 1 then none else match t with
    | .fil i => if wholeB i then some (.fil i, n + 1) else none
    | .lnk z => if pathB z then some (.lnk z, n + 1) else none
    | .dir ks => if ks.all fun p => nameB p.1 then (match nvs (nv g) (sortK ks) (n + 1) with
      | some (ks', m) => some (.dir ks', m)
      | none => none) else none
theorem nvs_cons (f : Nd → Nat → Option (Nd × Nat)) (p : Str × Nd) (r : List (Str × Nd)) (n : Nat) : nvs f (p :: r) n = match f p.2 n with
    | none => none
    | some (t, m) => match nvs f r m with
      | none => none
      | some (r', m') => some ((p.1, t) :: r', m') := rfl
theorem nvs_append (f : Nd → Nat → Option (Nd × Nat)) : ∀ (a b : List (Str × Nd)) (n : Nat), nvs f (a ++ b) n = match nvs f a n with
    | none => none
    | some (r, m) => match nvs f b m with
      | none => none
      | some (r', m') => some (r ++ r', m')
  | [], b, n => by
    show nvs f b n = match nvs f b n with | none => none | some (r', m') => some ([] ++ r', m')
    cases nvs f b n with
    | none => rfl
    | some p => rfl
  | p :: a, b, n => by
    rw [List.cons_append, nvs_cons, nvs_cons]
    cases e : f p.2 n with
    | none => rfl
    | some q =>
      obtain ⟨t, m⟩ := q
      dsimp only
      rw [nvs_append f a b m]
      cases nvs f a m with
      | none => rfl
      | some q1 =>
        obtain ⟨r1, m1⟩ := q1
        dsimp only
        cases nvs f b m1 with
        | none => rfl
        | some q2 => rfl
theorem nvs_one (f : Nd → Nat → Option (Nd × Nat)) (p : Str × Nd) (n : Nat) : nvs f [p] n = match f p.2 n with
    | none => none
    | some (t, m) => some ([(p.1, t)], m) := by
  unfold nvs
  cases f p.2 n with
  | none => rfl
  | some q => rfl
/-- one more -/
theorem nvs_next {f : Nd → Nat → Option (Nd × Nat)} {S r : List (Str × Nd)} {p : Str × Nd} {i n m m' : Nat} {t : Nd} (hi : S[i]? = some p) (h : nvs f (S.take i) n = some (r, m)) (hf : f p.2 m = some (t, m')) : nvs f (S.take (i + 1)) n = some (r ++ [(p.1, t)], m') := by
  rw [take_snoc hi, nvs_append, h]
  dsimp only
  rw [nvs_one, hf]
theorem nvs_stop {f : Nd → Nat → Option (Nd × Nat)} {S r : List (Str × Nd)} {p : Str × Nd} {i n m : Nat} (hi : S[i]? = some p) (h : nvs f (S.take i) n = some (r, m)) (hf : f p.2 m = none) : nvs f S n = none := by
  have e : S = S.take (i + 1) ++ S.drop (i + 1) := (List.take_append_drop _ _).symm
  have q : nvs f (S.take (i + 1)) n = none := by
    rw [take_snoc hi, nvs_append, h]
    dsimp only
    rw [nvs_one, hf]
  rw [e, nvs_append, q]
theorem nvs_names {f : Nd → Nat → Option (Nd × Nat)} : ∀ {S r : List (Str × Nd)} {n m : Nat}, nvs f S n = some (r, m) → r.map (·.1) = S.map (·.1)
  | [], r, n, m, h => by
    cases h
    rfl
  | p :: S, r, n, m, h => by
    unfold nvs at h
    cases e : f p.2 n with
    | none =>
      rw [e] at h
      cases h
    | some q =>
      obtain ⟨t, m1⟩ := q
      rw [e] at h
      dsimp only at h
      cases e2 : nvs f S m1 with
      | none =>
        rw [e2] at h
        cases h
      | some q2 =>
        obtain ⟨r', m'⟩ := q2
        rw [e2] at h
        cases h
        rw [List.map_cons, List.map_cons, nvs_names e2]
theorem nvs_le {f : Nd → Nat → Option (Nd × Nat)} (hf : ∀ t n t' m, f t n = some (t', m) → m ≤ 61) : ∀ {S r : List (Str × Nd)} {n m : Nat}, n ≤ 61 → nvs f S n = some (r, m) → m ≤ 61
  | [], r, n, m, h0, h => by
    cases h
    exact h0
  | p :: S, r, n, m, h0, h => by
    unfold nvs at h
    cases e : f p.2 n with
    | none =>
      rw [e] at h
      cases h
    | some q =>
      obtain ⟨t, m1⟩ := q
      rw [e] at h
      dsimp only at h
      cases e2 : nvs f S m1 with
      | none =>
        rw [e2] at h
        cases h
      | some q2 =>
        obtain ⟨r', m'⟩ := q2
        rw [e2] at h
        cases h
        exact nvs_le hf (hf _ _ _ _ e) e2
theorem nv_le : ∀ (g : Nat) (t : Nd) (n : Nat) (t' : Nd) (m : Nat), nv g t n = some (t', m) → m ≤ 61
  | 0, t, n, t', m, h => by cases h
  | g + 1, t, n, t', m, h => by
    unfold nv at h
    split at h
    · cases h
    · rename_i h61
      cases t with
      | fil i =>
        dsimp only at h
        split at h
        · cases h
          omega
        · cases h
      | lnk z =>
        dsimp only at h
        split at h
        · cases h
          omega
        · cases h
      | dir ks =>
        dsimp only at h
        split at h
        · cases e : nvs (nv g) (sortK ks) (n + 1) with
          | none =>
            rw [e] at h
            cases h
          | some q =>
            obtain ⟨r, m1⟩ := q
            rw [e] at h
            cases h
            exact nvs_le (nv_le g) (by omega) e
        · cases h
/-! ### a dict's entries by place -/
theorem valV_at {κ : Type} [DecidableEq κ] : ∀ {kvs : List (κ × V)} {j : Nat} {k : κ} {v : V}, (kvs.map (·.1)).Nodup → kvs[j]? = some (k, v) → valV kvs k = some v
  | [], j, k, v, _, h => by simp at h
  | p :: r, 0, k, v, _, h => by
    have e : p = (k, v) := Option.some.inj h
    subst e
    simp [valV]
  | p :: r, j + 1, k, v, hn, h => by
    have hn' : (p.1 :: r.map (·.1)).Nodup := hn
    obtain ⟨h1, h2⟩ := List.nodup_cons.mp hn'
    have hr : r[j]? = some (k, v) := h
    have ne : p.1 ≠ k := fun z => h1 (by rw [z]; exact List.mem_map.mpr ⟨(k, v), List.mem_of_getElem? hr, rfl⟩)
    have ih := valV_at h2 hr
    unfold valV at ih ⊢
    rw [List.find?_cons_of_neg (by simpa using ne)]
    exact ih
end Tx
set_option Elab.async false
set_option linter.all false
set_option maxRecDepth 100000
set_option maxHeartbeats 8000000
namespace Tx
open PySem PySem.Spec PyProof.Rows L2 Cm
/-- the class NoTree -/
structure No (K : PySem.W.Frag) (mg : Str → Option Value) (C : Addr) : Prop where
  g : mg "NoTree" = some (.ref C)
  x : PySem.W.excIn K C [.type "ValueError", .type "Exception", .type "BaseException", .type "object"] "ValueError.__new__" = true
  k : PySem.W.keepIn K (.ref C) = true
  b : PySem.W.subIn K (.ref C) (.type "BaseException") = some true
  t : PySem.W.typeIn K (.ref C) = some (.type "type")
  e : PySem.W.exmOne K (.ref C) (.ref C) = some true
def spNode (C : Addr) (g : Nat) : Sp := fun vs H Q E => ∃ v t m ms, vs = [v, .int (9 - (g : Int)), .ref m] ∧ NdAt H v t ∧ H m = some (.lst ms) ∧ ms.length ≤ 61 ∧
  (∀ t' n, nv g t ms.length = some (t', n) → ∀ v' ms' H', NdAt (newIn H H') v' t' → H' m = some (.lst ms') → ms'.length = n → But m H H' → Q v' H') ∧
  (nv g t ms.length = none → ∀ H', But m H H' → (∃ ms', H' m = some (.lst ms')) → E (.ref C) none H')
abbrev nN : List Str := ["thing", "depth", "met", "name"]
theorem scNode : FnScope nN ["thing", "depth", "met"] (defScope sNode) := ⟨rfl, rfl, rfl, by decide +kernel, rfl, by decide +kernel, by decide +kernel⟩
def stN (i : Nat) : Stmt := (defBody sNode).getD i (.Pass ⟨0, 0, 0, 0⟩)
section
variable {P : Program} {w : World} {K : PySem.W.Frag} {mg : Str → Option Value} {base : Heap} {f C : Addr} {cdv : Value} {A : Around} {outer : List Env} {s : Shared} {H0 : Hp} {E : XK}
abbrev XN (P : Program) (w : World) (K : PySem.W.Frag) (mg : Str → Option Value) (base : Heap) (f : Addr) (cdv : Value) (A : Around) (outer : List Env) (s : Shared) (H0 : Hp) (E : XK) : Cx := cxOf (L2.CX P w) P w K mg base nN "node_value" (defScope sNode) f cdv A outer s H0 E
/-- raise NoTree('..') -/
theorem ps_no {m : Str} {j : Nat} {p p2 p3 p4 : Pos} (T : No K mg C) : PS (XN P w K mg base f cdv A outer s H0 E) (.Raise (some (.Call (.Name "NoTree" p) [.Constant (.str m) j p2] [] p3)) none p4) (fun _ _ H => E (.ref C) none H) :=
  ps_raise rfl (takes_of rfl rfl rfl rfl) (pmk_own PySem.F.excBase_ValueError T.x T.g T.k (raises_own T.b T.t) (by rfl))
def sl (v : V) (d : Int) (m : Addr) : L2.St := [some v, some (.int d), some (.ref m), none]
/-- met.append(depth); the two checks -/
theorem hN0 {v : V} {d : Int} {m : Addr} {ms : List V} {H : Hp} (hm : H m = some (.lst ms)) (hl : ms.length ≤ 61) :
    Ho (XN P w K mg base f cdv A outer s H0 E) (stN 0) (fun σ H' => σ = sl v d m ∧ H' = H) (fun σ H' => σ = sl v d m ∧ H' = upd H m (.lst (ms ++ [.int d]))) := by
  refine ⟨_, ps_expr (pe_bm PySem.F.plainAttrs_list PySem.F.slot_list_append PySem.F.type_list_append mt_append (pv 2) (pa_cons (pv 1) pa_nil)), ?_⟩
  rintro D σ H' ⟨rfl, rfl⟩ q
  exact ⟨_, rfl, .inl ⟨rfl, _, SqL.of hm⟩, _, rfl, m, ms, _, rfl, rfl, hm, small1000 (by omega), q _ _ ⟨rfl, rfl⟩⟩
theorem hN1 {v : V} {d : Int} {m : Addr} {H : Hp} (Cn : Co mg) (T : No K mg C) (hx : 8 < d → E (.ref C) none H) :
    Ho (XN P w K mg base f cdv A outer s H0 E) (stN 1) (fun σ H' => σ = sl v d m ∧ H' = H) (fun σ H' => σ = sl v d m ∧ H' = H ∧ d ≤ 8) := by
  obtain ⟨td, hd⟩ := Cn.depth
  refine ⟨_, ps_if (pt_cmpR op_gt (pv 1) (pe_glob (v := .int 8) (by rfl) hd ⟨_, rfl⟩) (nomark _)) (pss_one (ps_no T)) pss_nil, ?_⟩
  rintro D σ H' ⟨rfl, rfl⟩ q
  refine ⟨_, rfl, d, 8, rfl, rfl, _, rfl, ite2 (fun c => hx (of_decide_eq_true c)) (fun c => ?_)⟩
  have c' : ¬ 8 < d := fun z => c (decide_eq_true z)
  exact q _ _ ⟨rfl, rfl, by omega⟩
theorem hN2 {v : V} {d : Int} {m : Addr} {H : Hp} {ms : List V} (B : Bi mg) (Cn : Co mg) (T : No K mg C) (hm : H m = some (.lst ms)) (hx : 61 < ms.length → E (.ref C) none H) :
    Ho (XN P w K mg base f cdv A outer s H0 E) (stN 2) (fun σ H' => σ = sl v d m ∧ H' = H ∧ d ≤ 8) (fun σ H' => σ = sl v d m ∧ H' = H ∧ ms.length ≤ 61) := by
  obtain ⟨td, hd⟩ := Cn.nodes
  refine ⟨_, ps_if (pt_cmpR op_gt (pe_callB call_len_seq (by rfl) B.len PySem.boot_len (pa_cons (pv 2) pa_nil)) (pe_op op_add (pe_glob (v := .int 60) (by rfl) hd ⟨_, rfl⟩) pe_int) (nomark _)) (pss_one (ps_no T)) pss_nil, ?_⟩
  rintro D σ H' ⟨rfl, rfl, _⟩ q
  refine ⟨_, rfl, m, ms, rfl, .inl (SqL.of hm), 60, 1, rfl, rfl, _, _, rfl, rfl, _, rfl, ite2 (fun c => hx ?_) (fun c => ?_)⟩
  · have c' : (60 : Int) + 1 < (ms.length : Int) := of_decide_eq_true c
    omega
  · have c' : ¬ (60 : Int) + 1 < (ms.length : Int) := fun z => c (decide_eq_true z)
    exact q _ _ ⟨rfl, rfl, by omega⟩
/-- behind the dict's branch: a file or a link -/
theorem hN4 {v : V} {t : Nd} {d : Int} {m : Addr} {H : Hp} (B : Bi mg) (T : No K mg C) (W : Cl P w K mg base CX0 1 "is_whole" ["thing", "low", "high"] (spWhole K)) (Pt : Cl P w K mg base CX0 2 "is_path" ["thing"] (spPath K)) (hr : Room 2 (XN P w K mg base f cdv A outer s H0 E).A)
    (R : VK) (h1 : ∀ i, t = .fil i → v = .int i ∧ ∀ H', Same H H' → if wholeB i = true then R v H' else E (.ref C) none H') (h2 : ∀ z, t = .lnk z → v = .str z ∧ z.length ≤ 100000 ∧ ∀ H', Same H H' → if pathB z = true then R v H' else E (.ref C) none H') (h3 : ∀ ks, t ≠ .dir ks) :
    HoR (XN P w K mg base f cdv A outer s H0 E) [stN 4, stN 5, stN 6] (fun σ H' => σ = sl v d m ∧ H' = H) R := by
  refine ⟨_, pss_cons (ps_if (PW.pt (pw_and (pt_val (pe_callB call_isi (by rfl) B.isin (by decide +kernel) (pa_cons (pv 0) (pa_cons (pe_bltn (v := .ty "str") (by rfl) B.str (by decide +kernel) rfl) pa_nil)))) (pw_and1 (pt_val (pe_cl Pt hr (by decide) (by rfl) pass0 (pa_cons (pv 0) pa_nil)))))) (pss_one (ps_ret (pv 0))) pss_nil)
    (pss_cons (ps_if (pt_val (pe_cl W hr (by decide) (by rfl) pass0 (pa_cons (pv 0) (pa_cons (pe_op op_sub pe_int (pe_op op_pow pe_int pe_int)) (pa_cons (pe_op op_sub (pe_op op_pow pe_int pe_int) pe_int) pa_nil))))) (pss_one (ps_ret (pv 0))) pss_nil)
    (pss_one (ps_no T))), ?_⟩
  rintro D σ H' ⟨rfl, rfl⟩ q
  cases t with
  | dir ks => exact absurd rfl (h3 ks)
  | fil i =>
    obtain ⟨rfl, hq⟩ := h1 i rfl
    refine ⟨_, rfl, _, .ty "str", _, _, false, rfl, .ty _, .base (.int i), kit_ty (by decide +kernel), _, rfl, iteF (iteF ?_)⟩
    refine ⟨_, rfl, 10, 60, rfl, rfl, ⟨by decide, by decide, by decide⟩, 1, _, rfl, rfl, 10, 60, rfl, rfl, ⟨by decide, by decide, by decide⟩, _, 1, rfl, rfl, _, _, _, _, rfl, .int i _ _, _, rfl, ite2 (fun c => ?_) (fun c => ?_)⟩
    · have hh := hq H' (Same.refl H')
      rw [if_pos (show wholeB i = true from c)] at hh
      exact ⟨_, rfl, q _ _ hh⟩
    · have hh := hq H' (Same.refl H')
      rw [if_neg (show ¬ wholeB i = true from c)] at hh
      exact hh
  | lnk z =>
    obtain ⟨rfl, hz, hq⟩ := h2 z rfl
    refine ⟨_, rfl, _, .ty "str", _, _, true, rfl, .ty _, .base (.str z), kit_ty (by decide +kernel), _, rfl, iteT ?_⟩
    refine ⟨_, rfl, _, _, rfl, .str z hz, fun H2 s2 => ⟨_, rfl, ite2 (fun c => ?_) (fun c => ?_)⟩⟩
    · have hh := hq H2 s2
      rw [if_pos c] at hh
      exact ⟨_, rfl, q _ _ hh⟩
    · have hh := hq H2 s2
      rw [if_neg c] at hh
      refine ⟨_, rfl, 10, 60, rfl, rfl, ⟨by decide, by decide, by decide⟩, 1, _, rfl, rfl, 10, 60, rfl, rfl, ⟨by decide, by decide, by decide⟩, _, 1, rfl, rfl, _, _, _, _, rfl, .other _ _ (.base (.str z)) (by decide +kernel), _, rfl, iteF ?_⟩
      exact hh
end
end Tx
set_option Elab.async false
set_option linter.all false
set_option maxRecDepth 100000
set_option maxHeartbeats 8000000
namespace Tx
open PySem PySem.Spec PyProof.Rows L2 Cm
section
variable {P : Program} {w : World} {K : PySem.W.Frag} {mg : Str → Option Value} {base : Heap} {f C : Addr} {cdv : Value} {A : Around} {outer : List Env} {s : Shared} {H0 : Hp} {E : XK}
/-- no dict: go on -/
theorem hN3n {v : V} {t : Nd} {d : Int} {m : Addr} {H : Hp} {n : Nat} (B : Bi mg) (hv : NdAt H v t) (h3 : ∀ ks, t ≠ .dir ks) :
    Ho (XN P w K mg base f cdv A outer s H0 E) (stN 3) (fun σ H' => σ = sl v d m ∧ H' = H ∧ n ≤ 61) (fun σ H' => σ = sl v d m ∧ H' = H) := by
  refine ⟨_, ps_if (pt_val (pe_callB call_isi (by rfl) B.isin (by decide +kernel) (pa_cons (pv 0) (pa_cons (pe_bltn (v := .ty "dict") (by rfl) B.dict (by decide +kernel) rfl) pa_nil)))) (pss_cons ps_never (pss_one ps_never)) pss_nil, ?_⟩
  rintro D σ H' ⟨rfl, rfl, _⟩ q
  cases hv with
  | fil i => exact ⟨_, rfl, _, .ty "dict", _, _, false, rfl, .ty _, .base (.int i), kit_ty (by decide +kernel), _, rfl, iteF (q _ _ ⟨rfl, rfl⟩)⟩
  | lnk z hz => exact ⟨_, rfl, _, .ty "dict", _, _, false, rfl, .ty _, .base (.str z), kit_ty (by decide +kernel), _, rfl, iteF (q _ _ ⟨rfl, rfl⟩)⟩
  | dir h hk hn hl hz hv => exact absurd rfl (h3 _)
/-- if not all([is_name(name) for name in thing]): raise -/
def stN3 (i : Nat) : Stmt := match stN 3 with | .If _ b _ _ => b.getD i (.Pass ⟨0, 0, 0, 0⟩) | _ => .Pass ⟨0, 0, 0, 0⟩
theorem hD0 {a : Addr} {ks : List (Str × Nd)} {kvs : List (Key × V)} {d : Int} {m : Addr} {H : Hp} (B : Bi mg) (T : No K mg C) (N : Cl P w K mg base CX0 1 "is_name" ["thing"] (spName K)) (hr : Room 2 (XN P w K mg base f cdv A outer s H0 E).A)
    (h : H a = some (.dK kvs)) (hk : kvs.map (·.1) = ks.map fun p => (Sum.inr p.1 : Key)) (hl : ks.length < 64) (hz : ∀ p ∈ ks, p.1.length ≤ 100000) (hx : (ks.all fun p => nameB p.1) = false → ∀ H', Same H H' → E (.ref C) none H') :
    Ho (XN P w K mg base f cdv A outer s H0 E) (stN3 0) (fun σ H' => σ = sl (.ref a) d m ∧ H' = H) (fun σ H' => σ = sl (.ref a) d m ∧ Same H H' ∧ (ks.all fun p => nameB p.1) = true) := by
  refine ⟨_, ps_if (pt_not (pt_val (pe_callB (cr_all rfl) (by rfl) B.all (by decide +kernel) (pa_cons (pe_lock (pe_lc (own := [("name", 3)]) (g := gName 3) (tt := tYes) (by rfl) scNode.nd (pi_keys (pv 0)) (blkOk_by (own := [("name", 3)]) (N := nN) (sc := defScope sNode) (by decide +kernel)) (fun _ _ _ _ _ => pg_name (i := 3) scNode.nd rfl (Or.inl rfl)) (fun _ _ _ _ _ => pts_nil) (fun _ _ _ _ _ => pe_cl N hr (by decide) (by rfl) pass0 (pa_cons (pv 3) pa_nil)))) pa_nil)))) (pss_one (ps_no T)) pss_nil, ?_⟩
  rintro D σ H' ⟨rfl, rfl⟩ q
  have hlen : kvs.length = ks.length := by
    have e := congrArg List.length hk
    rw [List.length_map, List.length_map] at e
    exact e
  refine ⟨a, .dK kvs, h, True.intro, fun od => ?_⟩
  refine ⟨_, rfl, a, od, rfl, .inl ⟨kvs, upd_same, fun L hL => lc_it walk_keys (fun i H2 => H2 L = some (.lst (((ks.map fun p => nameB p.1).take i).map V.bl)) ∧ H2 a = some (.frz od (.dK kvs)) ∧ ∀ b o, b ≠ a → H' b = some o → H2 b = some o) ?_ (fun i H2 _ h2 => h2.2.1) ?_ ?_⟩⟩
  · have na : a ≠ L := ne_of_none (show upd H' a _ a = some _ from upd_same) hL
    refine ⟨upd_same, by rw [upd_ne na]; exact upd_same, fun b o nb e => ?_⟩
    have e2 : upd H' a (.frz od (.dK kvs)) b = some o := by rw [upd_ne nb]; exact e
    rw [upd_ne (ne_of_none e2 hL)]
    exact e2
  · rintro i x H1 H2 hi ⟨h1, h2, h3⟩ ⟨rfl, k, v, hkv, rfl⟩
    have na : a ≠ L := ne_of_none (show upd H' a _ a = some _ from upd_same) hL
    have hi' : i < ks.length := by omega
    have ek : k = Sum.inr ks[i].1 := by
      have e1 : (kvs.map (·.1))[i]? = some k := by rw [List.getElem?_map, hkv]; rfl
      rw [hk, List.getElem?_map, List.getElem?_eq_getElem hi'] at e1
      exact (Option.some.inj e1).symm
    subst ek
    refine ⟨rfl, _, rfl, _, _, rfl, .str ks[i].1 (hz _ (List.getElem_mem hi')), fun H3 s3 => ?_⟩
    have eg : (ks.map fun p => nameB p.1)[i]? = some (nameB ks[i].1) := by
      rw [List.getElem?_map, List.getElem?_eq_getElem hi']
      rfl
    refine ⟨_, s3 _ _ h1, small1000 ?_, ?_, ?_, fun b o nb e => ?_⟩
    · rw [List.length_map, List.length_take, List.length_map]
      omega
    · rw [upd_same, take_snoc eg, List.map_append]
      rfl
    · rw [upd_ne na]
      exact s3 _ _ h2
    · have nL : H' L = none := by
        cases e0 : H' L with
        | none => rfl
        | some o0 =>
          exfalso
          have z : upd H' a (.frz od (.dK kvs)) L = some o0 := by rw [upd_ne na.symm]; exact e0
          rw [z] at hL
          cases hL
      rw [upd_ne (ne_of_none e nL)]
      exact s3 _ _ (h3 b o nb e)
  · rintro H1 ⟨h1, h2, h3⟩
    have na : a ≠ L := ne_of_none (show upd H' a _ a = some _ from upd_same) hL
    have e : (ks.map fun p => nameB p.1).take kvs.length = ks.map fun p => nameB p.1 := List.take_of_length_le (by rw [List.length_map]; omega)
    rw [e] at h1
    have sm : Same H' (upd H1 a (.dK kvs)) := fun b o e => by
      by_cases eb : b = a
      · subst eb
        rw [upd_same, ← h]
        exact e
      · rw [upd_ne eb]
        exact h3 b o eb e
    refine ⟨h2, L, _, rfl, SqL.of (by rw [upd_ne na.symm]; exact h1), _, rfl, ?_⟩
    have ea : (ks.map fun p => nameB p.1).all id = ks.all fun p => nameB p.1 := by
      rw [List.all_map]
      rfl
    rw [ea]
    cases c : (ks.all fun p => nameB p.1) with
    | true => exact iteF (q _ _ ⟨rfl, sm, c⟩)
    | false => exact iteT (hx c _ sm)
end
end Tx
set_option Elab.async false
set_option linter.all false
set_option maxRecDepth 100000
set_option maxHeartbeats 8000000
namespace Tx
open PySem PySem.Spec PyProof.Rows L2 Cm
/-- all but m and D stay -/
def But2 (m D : Addr) (H H' : Hp) : Prop := ∀ b o, b ≠ m → b ≠ D → H b = some o → H' b = some o
/-- what holds of the new dict at D when i names are done -/
structure DcI (f : Nd → Nat → Option (Nd × Nat)) (S : List (Str × Nd)) (n0 : Nat) (HD : Hp) (m D : Addr) (i : Nat) (H' : Hp) (r : List (Str × Nd)) (n : Nat) (kvs : List (Key × V)) (ms : List V) : Prop where
  nvs : nvs f (S.take i) n0 = some (r, n)
  d : H' D = some (.dK kvs)
  k : kvs.map (·.1) = r.map fun p => (Sum.inr p.1 : Key)
  v : ∀ (j : Nat) (kv : Key × V) (p : Str × Nd), kvs[j]? = some kv → r[j]? = some p → NdAt (newIn HD H') kv.2 p.2
  mm : H' m = some (.lst ms)
  ml : ms.length = n
  b : But2 m D HD H'
theorem DcI.next {f : Nd → Nat → Option (Nd × Nat)} {S : List (Str × Nd)} {n0 : Nat} {HD H1 H2 : Hp} {m D : Addr} {i n n' : Nat} {r : List (Str × Nd)} {kvs : List (Key × V)} {ms ms' : List V} {p : Str × Nd} {t' : Nd} {v' : V}
    (I : DcI f S n0 HD m D i H1 r n kvs ms) (hS : (S.map (·.1)).Nodup) (hp : S[i]? = some p) (hf : f p.2 n = some (t', n')) (hmD : m ≠ D) (hDm : ∃ o, HD m = some o) (hDD : ∃ o, HD D = some o)
    (hv : NdAt (newIn H1 H2) v' t') (hm : H2 m = some (.lst ms')) (hl : ms'.length = n') (hb : But m H1 H2) :
    H2 D = some (.dK kvs) ∧ DcI f S n0 HD m D (i + 1) (upd H2 D (.dK (putK kvs (Sum.inr p.1) v'))) (r ++ [(p.1, t')]) n' (putK kvs (Sum.inr p.1) v') ms' := by
  have hD2 : H2 D = some (.dK kvs) := hb D _ hmD.symm I.d
  have hlen : kvs.length = r.length := by
    have e := congrArg List.length I.k
    rw [List.length_map, List.length_map] at e
    exact e
  have hrn : r.map (·.1) = (S.take i).map (·.1) := nvs_names I.nvs
  have hnew : valV kvs (Sum.inr p.1 : Key) = none := by
    unfold valV
    have z : kvs.find? (fun q => decide (q.1 = (Sum.inr p.1 : Key))) = none := by
      rw [List.find?_eq_none]
      intro q hq c
      have c' : q.1 = (Sum.inr p.1 : Key) := of_decide_eq_true c
      have h1 : (Sum.inr p.1 : Key) ∈ kvs.map (·.1) := List.mem_map.mpr ⟨q, hq, c'⟩
      rw [I.k] at h1
      obtain ⟨q2, hq2, e2⟩ := List.mem_map.mp h1
      have e3 : q2.1 = p.1 := Sum.inr.inj e2
      have h3 : p.1 ∈ (S.take i).map (·.1) := by
        rw [← hrn, ← e3]
        exact List.mem_map.mpr ⟨q2, hq2, rfl⟩
      have hS2 : ((S.take (i + 1)).map (·.1)).Nodup := by
        have q : (S.take (i + 1)).Sublist S := List.take_sublist _ _
        exact (q.map _).nodup hS
      rw [take_snoc hp, List.map_append, List.nodup_append] at hS2
      exact hS2.2.2 p.1 h3 p.1 (by simp) rfl
    rw [z]
    rfl
  have hput : putK kvs (Sum.inr p.1 : Key) v' = kvs ++ [(Sum.inr p.1, v')] := putK_new v' hnew
  have kp1 : DKeep (newIn HD H1) (newIn HD (upd H2 D (.dK (putK kvs (Sum.inr p.1) v')))) := newIn_part (fun b o h => ⟨o, h⟩) fun b k h0 h1 => by
    have nD : b ≠ D := fun z => by
      obtain ⟨o, e⟩ := hDD
      rw [z, e] at h0
      cases h0
    have nm : b ≠ m := fun z => by
      obtain ⟨o, e⟩ := hDm
      rw [z, e] at h0
      cases h0
    rw [upd_ne nD]
    exact hb b _ nm h1
  have kp2 : DKeep (newIn H1 H2) (newIn HD (upd H2 D (.dK (putK kvs (Sum.inr p.1) v')))) := newIn_part (fun b o h => by
    by_cases c1 : b = m
    · exact ⟨_, by rw [c1]; exact I.mm⟩
    · by_cases c2 : b = D
      · exact ⟨_, by rw [c2]; exact I.d⟩
      · exact ⟨o, I.b b o c1 c2 h⟩) fun b k h0 h1 => by
    have nD : b ≠ D := fun z => by
      rw [z, I.d] at h0
      cases h0
    rw [upd_ne nD]
    exact h1
  refine ⟨hD2, ⟨nvs_next hp I.nvs hf, upd_same, ?_, ?_, ?_, hl, ?_⟩⟩
  · rw [hput, List.map_append, List.map_append, I.k]
    rfl
  · rw [hput]
    intro j kv q h1 h2
    by_cases c : j < kvs.length
    · rw [List.getElem?_append_left c] at h1
      rw [List.getElem?_append_left (by omega)] at h2
      have z := (I.v j kv q h1 h2).mono kp1
      rw [hput] at z
      exact z
    · rw [List.getElem?_append_right (by omega)] at h1 h2
      have e : j - kvs.length = 0 := by
        cases e : j - kvs.length with
        | zero => rfl
        | succ k =>
          rw [e] at h1
          cases h1
      rw [← hlen, e] at h2
      rw [e] at h1
      cases h1
      cases h2
      have z := hv.mono kp2
      rw [hput] at z
      exact z
  · rw [upd_ne hmD]
    exact hm
  · intro b o n1 n2 h
    rw [upd_ne n2]
    exact hb b o n1 (I.b b o n1 n2 h)
section
variable {P : Program} {w : World} {K : PySem.W.Frag} {mg : Str → Option Value} {base : Heap} {f C : Addr} {cdv : Value} {A : Around} {outer : List Env} {s : Shared} {H0 : Hp} {E : XK}
/-- return {name: node_value(thing[name], depth + 1, met) for name in sorted(thing)} -/
theorem hD1 {pr : Prop} {g j : Nat} {a : Addr} {ks : List (Str × Nd)} {m : Addr} {H : Hp} {ms : List V} (B : Bi mg) (R : VK) (NX : Cl P w K mg base (L2.CX P w) j "node_value" ["thing", "depth", "met"] (spNode C g)) (hr : Room j (XN P w K mg base f cdv A outer s H0 E).A)
    (hH : NdAt H (.ref a) (.dir ks)) (hm : H m = some (.lst ms)) (hms : ms.length ≤ 61)
    (hq : pr → ∀ ks' n, nvs (nv g) (sortK ks) ms.length = some (ks', n) → ∀ D ms' H', NdAt (newIn H H') (.ref D) (.dir ks') → H' m = some (.lst ms') → ms'.length = n → But m H H' → R (.ref D) H')
    (hx : pr → nvs (nv g) (sortK ks) ms.length = none → ∀ H', But m H H' → (∃ ms', H' m = some (.lst ms')) → E (.ref C) none H') :
    HoR (XN P w K mg base f cdv A outer s H0 E) [stN3 1] (fun σ H' => σ = sl (.ref a) (8 - (g : Int)) m ∧ Same H H' ∧ pr) R := by
  have hu : (XN P w K mg base f cdv A outer s H0 E).A.units + 1 < cLine := by
    have := hr.units
    omega
  refine ⟨_, pss_one (ps_ret (DcE.pe_dcE (own := [("name", 3)]) (g := gName 3) (E := E) (by rfl) scNode.nd (takes_of rfl rfl rfl rfl) (by rfl) (by rfl) (pi_list (pe_callB (call_sortedD rfl) (by rfl) B.sorted boot_sorted (pa_cons (pv 0) pa_nil))) (blkOk_by (own := [("name", 3)]) (N := nN) (sc := defScope sNode) (by decide +kernel)) (fun _ _ _ _ _ => pg_name (i := 3) scNode.nd rfl (Or.inl rfl)) (fun _ _ _ _ _ => pv 3)
    (fun _ _ _ _ _ _ hP => pe_cl NX hr (Nat.le_refl _) (by rfl) hP (pa_cons (pe_dget hu (pv 0) (pv 3) (fun _ _ => rfl)) (pa_cons (pe_op op_add (pv 1) pe_int) (pa_cons (pv 2) pa_nil)))))), ?_⟩
  rintro D0 σ H' ⟨rfl, sm, hpr⟩ q
  replace hq := fun ks' n e D ms' H2 (hN : NdAt (newIn H' H2) (.ref D) (.dir ks')) hM hL (hB : But m H' H2) => hq hpr ks' n e D ms' H2 (hN.mono (newIn_part (fun b o eb => ⟨o, sm _ _ eb⟩) fun _ _ _ e => e)) hM hL ((Same.but m sm).trans hB)
  replace hx := fun e H2 (hB : But m H' H2) hM => hx hpr e H2 ((Same.but m sm).trans hB) hM
  replace hH := hH.mono (DKeep.same sm)
  replace hm := sm _ _ hm
  clear sm hpr
  cases hH with
  | @dir _ kvs _ h hk hn hl hz hv =>
  have hk0 : kvs.map (·.1) = (ks.map (·.1)).map (Sum.inr : Str → Key) := by
    rw [List.map_map]
    exact hk
  refine ⟨_, rfl, a, kvs, ks.map (·.1), rfl, .inl h, hk0, by rw [List.length_map]; exact hl, fun ys p hp hs hpn => ?_⟩
  have eys : ys = (sortK ks).map (·.1) := sortK_names hp hs
  subst eys
  obtain ⟨HS, eHS⟩ : ∃ HS, HS = upd H' p (.lst (((sortK ks).map (·.1)).map V.str)) := ⟨_, rfl⟩
  rw [← eHS]
  have hSp : HS p = some (.lst (((sortK ks).map (·.1)).map V.str)) := by rw [eHS]; exact upd_same
  have sS : Same H' HS := by rw [eHS]; exact same_new hpn
  refine ⟨p, rfl, ⟨_, SqL.of hSp⟩, fun D hD => ?_⟩
  have hmS : HS m = some (.lst ms) := sS _ _ hm
  have mD : m ≠ D := ne_of_none hmS hD
  have pD : p ≠ D := ne_of_none hSp hD
  have aD : a ≠ D := ne_of_none (sS _ _ h) hD
  have am : a ≠ m := fun z => by
    rw [z, hm] at h
    cases h
  have pm : p ≠ m := fun z => by
    rw [z, hm] at hpn
    cases hpn
  have keepH : ∀ {b o}, H' b = some o → b ≠ D := fun {b o} e => ne_of_none (sS _ _ e) hD
  have hkn : (kvs.map (·.1)).Nodup := by
    rw [hk0]
    unfold List.Nodup at hn ⊢
    rw [List.pairwise_map]
    exact hn.imp fun h e => h (Sum.inr.inj e)
  obtain ⟨HD, eHD⟩ : ∃ HD, HD = upd HS D (.dK []) := ⟨_, rfl⟩
  have hDm : HD m = some (.lst ms) := by rw [eHD, upd_ne mD]; exact hmS
  have hDp : HD p = some (.lst (((sortK ks).map (·.1)).map V.str)) := by rw [eHD, upd_ne pD]; exact hSp
  have hDD : HD D = some (.dK []) := by rw [eHD]; exact upd_same
  have HtoD : ∀ b o, H' b = some o → HD b = some o := fun b o e => by
    rw [eHD, upd_ne (keepH e)]
    exact sS _ _ e
  refine DcE.dce_list (K := K) (xs := ((sortK ks).map (·.1)).map V.str) (fun i H2 => ∃ r n kv2 ms2, DcI (nv g) (sortK ks) ms.length HD m D i H2 r n kv2 ms2) ?_ ?_ ?_ ?_
  · rw [← eHD]
    exact ⟨[], ms.length, [], ms, rfl, hDD, rfl, fun j kv p e => by simp at e, hDm, rfl, fun b o _ _ e => e⟩
  · rintro i H2 _ ⟨r, n, kv2, ms2, I⟩
    exact SqL.of (I.b p _ pm pD hDp)
  · rintro i x H2 hi ⟨r, n, kv2, ms2, I⟩
    obtain ⟨pr, hpr, rfl⟩ : ∃ pr, (sortK ks)[i]? = some pr ∧ x = .str pr.1 := by
      rw [List.map_map, List.getElem?_map] at hi
      cases e : (sortK ks)[i]? with
      | none =>
        rw [e] at hi
        cases hi
      | some pr =>
        rw [e] at hi
        exact ⟨pr, rfl, (Option.some.inj hi).symm⟩
    have hmem : pr ∈ ks := sortK_mem.mp (List.mem_of_getElem? hpr)
    obtain ⟨j0, hj0⟩ := List.getElem?_of_mem hmem
    have hlen : kvs.length = ks.length := by
      have e := congrArg List.length hk
      rw [List.length_map, List.length_map] at e
      exact e
    have hjl : j0 < kvs.length := by
      rw [hlen]
      exact (List.getElem?_eq_some_iff.mp hj0).1
    obtain ⟨kv, hkv⟩ : ∃ kv, kvs[j0]? = some kv := ⟨_, List.getElem?_eq_getElem hjl⟩
    have ekv : kv.1 = Sum.inr pr.1 := by
      have e1 : (kvs.map (·.1))[j0]? = some kv.1 := by rw [List.getElem?_map, hkv]; rfl
      rw [hk, List.getElem?_map, hj0] at e1
      exact (Option.some.inj e1).symm
    have hget : valV kvs (Sum.inr pr.1 : Key) = some kv.2 := valV_at hkn (by rw [hkv, ← ekv])
    have h2a : H2 a = some (.dK kvs) := I.b a _ am aD (HtoD _ _ h)
    have hle : n ≤ 61 := nvs_le (nv_le g) hms I.nvs
    have hch : NdAt H2 kv.2 pr.2 := (hv j0 kv pr hkv hj0).mono fun b kvb e => I.b b _ (fun z => by
      rw [z, hm] at e
      cases e) (keepH e) (HtoD _ _ e)
    refine ⟨rfl, _, rfl, _, rfl, _, rfl, a, kv.2, rfl, ?_, ?_⟩
    · have z := DGet.k (k := (Sum.inr pr.1 : Key)) h2a
      rw [hget] at z
      exact z
    refine ⟨_, rfl, _, _, rfl, rfl, _, rfl, kv.2, pr.2, m, ms2, ?_, hch, I.mm, by rw [I.ml]; exact hle, ?_, ?_⟩
    · have e : (8 - (g : Int)) + 1 = 9 - (g : Int) := by omega
      rw [← e]
      rfl
    · intro t' n' e v' ms' H3 hv' hm' hl' hb'
      rw [I.ml] at e
      obtain ⟨z1, z2⟩ := I.next (sortK_nodup hn) hpr e mD ⟨_, hDm⟩ ⟨_, hDD⟩ hv' hm' hl' hb'
      refine ⟨kv2, Sum.inr pr.1, rfl, z1, small1000 ?_, _, _, _, _, z2⟩
      have e1 := congrArg List.length I.k
      rw [List.length_map, List.length_map] at e1
      have e2 := congrArg List.length (nvs_names I.nvs)
      rw [List.length_map, List.length_map, List.length_take] at e2
      have e3 := sortK_len ks
      omega
    · intro e H3 hb' hm'
      rw [I.ml] at e
      refine hx (nvs_stop hpr I.nvs e) H3 (fun b o nb eb => ?_) hm'
      exact hb' b o nb (I.b b o nb (keepH eb) (HtoD _ _ eb))
  · rintro H2 ⟨r, n, kv2, ms2, I⟩
    have e : (sortK ks).take (((sortK ks).map (·.1)).map V.str).length = sortK ks := List.take_of_length_le (by rw [List.length_map, List.length_map]; exact Nat.le_refl _)
    have hnvs := I.nvs
    rw [e] at hnvs
    have er : r.map (·.1) = (sortK ks).map (·.1) := nvs_names hnvs
    refine q _ _ (hq r n hnvs D ms2 H2 ?_ I.mm I.ml fun b o nb eb => I.b b o nb (keepH eb) (HtoD _ _ eb))
    have hDn : H' D = none := by
      cases e0 : H' D with
      | none => rfl
      | some o =>
        rw [sS _ _ e0] at hD
        cases hD
    refine .dir (by rw [newIn_of hDn]; exact I.d) I.k (by rw [er]; exact sortK_nodup hn) ?_ ?_ ?_
    · have e3 := congrArg List.length er
      rw [List.length_map, List.length_map, sortK_len] at e3
      omega
    · intro q0 hq0
      have z : q0.1 ∈ (sortK ks).map (·.1) := by
        rw [← er]
        exact List.mem_map.mpr ⟨q0, hq0, rfl⟩
      obtain ⟨q1, hq1, e1⟩ := List.mem_map.mp z
      rw [← e1]
      exact hz _ (sortK_mem.mp hq1)
    · intro i kv p0 e1 e2
      refine (I.v i kv p0 e1 e2).mono (newIn_part (fun b o eb => ⟨o, HtoD _ _ eb⟩) fun b kb _ eb => eb)
/-- a dict -/
theorem hN3d {g j : Nat} {a : Addr} {ks : List (Str × Nd)} {m : Addr} {H : Hp} {ms : List V} {x : Nat} (B : Bi mg) (T : No K mg C) (R : VK) (N : Cl P w K mg base CX0 1 "is_name" ["thing"] (spName K)) (NX : Cl P w K mg base (L2.CX P w) j "node_value" ["thing", "depth", "met"] (spNode C g)) (hr : Room j (XN P w K mg base f cdv A outer s H0 E).A) (hj : 2 ≤ j)
    (hH : NdAt H (.ref a) (.dir ks)) (hm : H m = some (.lst ms)) (hms : ms.length ≤ 61)
    (hq : (ks.all fun p => nameB p.1) = true → ∀ ks' n, nvs (nv g) (sortK ks) ms.length = some (ks', n) → ∀ D ms' H', NdAt (newIn H H') (.ref D) (.dir ks') → H' m = some (.lst ms') → ms'.length = n → But m H H' → R (.ref D) H')
    (hx : (ks.all fun p => nameB p.1) = false ∨ nvs (nv g) (sortK ks) ms.length = none → ∀ H', But m H H' → (∃ ms', H' m = some (.lst ms')) → E (.ref C) none H') :
    HoR (XN P w K mg base f cdv A outer s H0 E) [stN 3, stN 4, stN 5, stN 6] (fun σ H' => σ = sl (.ref a) (8 - (g : Int)) m ∧ H' = H ∧ x ≤ 61) R := by
  cases hH with
  | @dir _ kvs _ h hk hn hl hz hv =>
  have b0 := hD0 (s := s) (H0 := H0) (E := E) (A := A) (outer := outer) (cdv := cdv) (d := 8 - (g : Int)) (m := m) B T N (hr.mono hj) h hk hl hz (fun c H' sm => hx (.inl c) H' (Same.but m sm) ⟨ms, sm _ _ hm⟩)
  obtain ⟨t0, p0, r0⟩ := b0
  obtain ⟨t1, p1, r1⟩ := hD1 (s := s) (H0 := H0) (E := E) (A := A) (outer := outer) (cdv := cdv) (f := f) (pr := (ks.all fun p => nameB p.1) = true) B R NX hr (.dir h hk hn hl hz hv) hm hms hq (fun _ e => hx (.inr e))
  refine ⟨_, pss_cons (ps_if (pt_val (pe_callB call_isi (by rfl) B.isin (by decide +kernel) (pa_cons (pv 0) (pa_cons (pe_bltn (v := .ty "dict") (by rfl) B.dict (by decide +kernel) rfl) pa_nil)))) (pss_cons p0 p1) pss_nil) (pss_cons ps_never (pss_cons ps_never (pss_one ps_never))), ?_⟩
  rintro D σ H' ⟨rfl, rfl, _⟩ q
  refine ⟨_, rfl, _, .ty "dict", _, _, true, rfl, .ty _, .base (.dK h), kit_ty (by decide +kernel), _, rfl, iteT ?_⟩
  exact r0 _ _ _ ⟨rfl, rfl⟩ fun σ' H2 z => r1 _ _ _ z q
end
end Tx
set_option Elab.async false
set_option linter.all false
set_option maxRecDepth 100000
set_option maxHeartbeats 8000000
namespace Tx
open PySem PySem.Spec PyProof.Rows L2 Cm
theorem bodyNode : defBody sNode = [stN 0, stN 1, stN 2, stN 3, stN 4, stN 5, stN 6] := rfl
theorem HoR.never {X : Cx} {p : L2.St → Hp → Prop} {R : VK} (hp : ∀ σ H, ¬ p σ H) : ∀ sts : List Stmt, HoR X sts p R
  | [] => ⟨_, pss_nil, fun D σ H h => absurd h (hp σ H)⟩
  | st :: r => by
    obtain ⟨t, ht, h⟩ := HoR.never (X := X) (R := R) hp r
    exact ⟨_, pss_cons ps_never ht, fun D σ H h => absurd h (hp σ H)⟩
theorem nv_succ (g : Nat) (t : Nd) (n : Nat) : nv (g + 1) t n = if 61 < n + 1 then none else match t with
    | .fil i => if wholeB i then some (.fil i, n + 1) else none
    | .lnk z => if pathB z then some (.lnk z, n + 1) else none
    | .dir ks => if ks.all fun p => nameB p.1 then (match nvs (nv g) (sortK ks) (n + 1) with
      | some (ks', m) => some (.dir ks', m)
      | none => none) else none := by
  cases t <;> rfl
section
variable {P : Program} {w : World} {K : PySem.W.Frag} {mg : Str → Option Value} {base : Heap} {f C : Addr} {fd : FuncData}
theorem ok_node (F : Fun K "node_value" "node_value" sNode f fd) (hm : mg "node_value" = some (.ref f)) (hb : Binds K fd ["thing", "depth", "met"] []) (B : Bi mg) (Cn : Co mg) (T : No K mg C)
    (W : Cl P w K mg base CX0 1 "is_whole" ["thing", "low", "high"] (spWhole K)) (N : Cl P w K mg base CX0 1 "is_name" ["thing"] (spName K)) (Pt : Cl P w K mg base CX0 2 "is_path" ["thing"] (spPath K)) :
    ∀ g, FnOk P w K mg base (L2.CX P w) (g + 3) f fd ["thing", "depth", "met"] (spNode C g)
  | 0 => by
    refine F.okX scNode (fun vs H Q E h => ?_) (fun cdv A outer s H vs Q E hr h => ?_)
    · obtain ⟨v, t, m, ms, rfl, _⟩ := h
      rfl
    · obtain ⟨v, t, m, ms, rfl, hv, hm, hl, _, hE⟩ := h
      rw [bodyNode]
      have q : HoR (XN P w K mg base f cdv A outer s H E) [stN 0, stN 1, stN 2, stN 3, stN 4, stN 5, stN 6] (fun σ H' => σ = sl v 9 m ∧ H' = H) Q := HoR.cons (hN0 hm hl) (HoR.cons (hN1 Cn T (fun _ => hE rfl _ But.upd ⟨_, upd_same⟩)) (HoR.never (fun σ H' h => by
        obtain ⟨_, _, h8⟩ := h
        omega) _))
      obtain ⟨t, ht, hq⟩ := q
      exact ⟨t, ht, hq _ _ _ ⟨rfl, rfl⟩ fun _ _ h => h⟩
  | g + 1 => by
    have ih := ok_node F hm hb B Cn T W N Pt g
    have NX : Cl P w K mg base (L2.CX P w) (g + 3) "node_value" ["thing", "depth", "met"] (spNode C g) := ⟨f, fd, ih, hm, F.kp, hb⟩
    refine F.okX scNode (fun vs H Q E h => ?_) (fun cdv A outer s H vs Q E hr h => ?_)
    · obtain ⟨v, t, m, ms, rfl, _⟩ := h
      rfl
    · obtain ⟨v, t, m, ms, rfl, hv, hm, hl, hQ, hE⟩ := h
      rw [bodyNode]
      have hr' : Room (g + 3) (XN P w K mg base f cdv A outer s H E).A := hr
      have ed : (9 - ((g + 1 : Nat) : Int)) = 8 - (g : Int) := by omega
      rw [ed]
      obtain ⟨ms1, e1⟩ : ∃ ms1 : List V, ms1 = ms ++ [.int (8 - (g : Int))] := ⟨_, rfl⟩
      obtain ⟨H1, eH⟩ : ∃ H1, H1 = upd H m (.lst ms1) := ⟨_, rfl⟩
      have l1 : ms1.length = ms.length + 1 := by
        rw [e1, List.length_append]
        rfl
      have hm1 : H1 m = some (.lst ms1) := by rw [eH]; exact upd_same
      have b1 : But m H H1 := by rw [eH]; exact But.upd
      have hv1 : NdAt H1 v t := hv.mono (DKeep.but b1 hm (by intro _ z; cases z))
      have a0 := hN0 (P := P) (w := w) (K := K) (mg := mg) (base := base) (f := f) (cdv := cdv) (A := A) (outer := outer) (s := s) (H0 := H) (E := E) (v := v) (d := 8 - (g : Int)) hm hl
      rw [← e1, ← eH] at a0
      have a1 := hN1 (P := P) (w := w) (base := base) (f := f) (cdv := cdv) (A := A) (outer := outer) (s := s) (H0 := H) (E := E) (v := v) (d := 8 - (g : Int)) (m := m) (H := H1) Cn T (fun h => by omega)
      have a2 := hN2 (P := P) (w := w) (base := base) (f := f) (cdv := cdv) (A := A) (outer := outer) (s := s) (H0 := H) (E := E) (v := v) (d := 8 - (g : Int)) B Cn T hm1 (fun h => hE (by rw [nv_succ, if_pos (by omega)]) H1 b1 ⟨_, hm1⟩)
      by_cases h61 : 61 < ms.length + 1
      · obtain ⟨t', ht, hq⟩ := HoR.cons a0 (HoR.cons a1 (HoR.cons a2 (HoR.never (R := Q) (fun σ H' h => by
          obtain ⟨_, _, h8⟩ := h
          omega) [stN 3, stN 4, stN 5, stN 6])))
        exact ⟨t', ht, hq _ _ _ ⟨rfl, rfl⟩ fun _ _ h => h⟩
      · rw [nv_succ, if_neg h61] at hQ hE
        cases t with
        | dir ks =>
          obtain ⟨a, rfl⟩ : ∃ a, v = .ref a := by
            cases hv
            exact ⟨_, rfl⟩
          dsimp only at hQ hE
          have a3 := hN3d (cdv := cdv) (A := A) (outer := outer) (s := s) (H0 := H) (E := E) (f := f) (x := ms1.length) B T Q N NX hr' (by omega) hv1 hm1 (by omega) (fun hall ks' n e D ms' H' hN hM hL hB => by
            rw [if_pos hall] at hQ
            rw [l1] at e
            rw [e] at hQ
            exact hQ (.dir ks') n rfl _ ms' H' (hN.mono (newIn_part (fun b o eb => by
              by_cases c : b = m
              · exact ⟨_, by rw [c]; exact hm1⟩
              · exact ⟨_, b1 _ _ c eb⟩) fun _ _ _ e => e)) hM hL (b1.trans hB)) (fun c H' hB hM => by
            refine hE ?_ H' (b1.trans hB) hM
            rcases c with c | c
            · rw [if_neg (by rw [c]; simp)]
            · rw [l1] at c
              rw [c]
              split <;> rfl)
          obtain ⟨t', ht, hq⟩ := HoR.cons a0 (HoR.cons a1 (HoR.cons a2 a3))
          exact ⟨t', ht, hq _ _ _ ⟨rfl, rfl⟩ fun _ _ h => h⟩
        | fil i =>
          obtain rfl : v = .int i := by
            cases hv
            rfl
          dsimp only at hQ hE
          have a3 := hN3n (P := P) (w := w) (K := K) (mg := mg) (base := base) (f := f) (cdv := cdv) (A := A) (outer := outer) (s := s) (H0 := H) (E := E) (d := 8 - (g : Int)) (m := m) (n := ms1.length) B hv1 (fun _ z => by cases z)
          have a4 := hN4 (cdv := cdv) (A := A) (outer := outer) (s := s) (H0 := H) (E := E) (f := f) (H := H1) (v := .int i) (t := .fil i) (d := 8 - (g : Int)) (m := m) B T W Pt (hr'.mono (by omega)) Q (fun i' z => by
            cases z
            refine ⟨rfl, fun H' sm => ?_⟩
            by_cases c : wholeB i = true
            · rw [if_pos c]
              rw [if_pos c] at hQ
              exact hQ _ _ rfl _ ms1 H' (.fil i) (sm _ _ hm1) l1 (b1.trans (Same.but m sm))
            · rw [if_neg c]
              rw [if_neg c] at hE
              exact hE rfl H' (b1.trans (Same.but m sm)) ⟨_, sm _ _ hm1⟩) (fun z h => by cases h) (fun _ z => by cases z)
          obtain ⟨t', ht, hq⟩ := HoR.cons a0 (HoR.cons a1 (HoR.cons a2 (HoR.cons a3 a4)))
          exact ⟨t', ht, hq _ _ _ ⟨rfl, rfl⟩ fun _ _ h => h⟩
        | lnk z =>
          obtain ⟨rfl, hz⟩ : v = .str z ∧ z.length ≤ 100000 := by
            cases hv with
            | lnk _ hz => exact ⟨rfl, hz⟩
          dsimp only at hQ hE
          have a3 := hN3n (P := P) (w := w) (K := K) (mg := mg) (base := base) (f := f) (cdv := cdv) (A := A) (outer := outer) (s := s) (H0 := H) (E := E) (d := 8 - (g : Int)) (m := m) (n := ms1.length) B hv1 (fun _ z => by cases z)
          have a4 := hN4 (cdv := cdv) (A := A) (outer := outer) (s := s) (H0 := H) (E := E) (f := f) (H := H1) (v := .str z) (t := .lnk z) (d := 8 - (g : Int)) (m := m) B T W Pt (hr'.mono (by omega)) Q (fun i' z => by cases z) (fun z' h => by
            cases h
            refine ⟨rfl, hz, fun H' sm => ?_⟩
            by_cases c : pathB z = true
            · rw [if_pos c]
              rw [if_pos c] at hQ
              exact hQ _ _ rfl _ ms1 H' (.lnk z hz) (sm _ _ hm1) l1 (b1.trans (Same.but m sm))
            · rw [if_neg c]
              rw [if_neg c] at hE
              exact hE rfl H' (b1.trans (Same.but m sm)) ⟨_, sm _ _ hm1⟩) (fun _ z => by cases z)
          obtain ⟨t', ht, hq⟩ := HoR.cons a0 (HoR.cons a1 (HoR.cons a2 (HoR.cons a3 a4)))
          exact ⟨t', ht, hq _ _ _ ⟨rfl, rfl⟩ fun _ _ h => h⟩
end
end Tx
set_option Elab.async false
set_option linter.all false
set_option maxRecDepth 100000
set_option maxHeartbeats 4000000
namespace Tx
open PySem PySem.Spec PyProof.Rows L2 Cm
/-! ### nodes by their paths -/
mutual
def sz : Nd → Nat
  | .fil _ => 1
  | .lnk _ => 1
  | .dir ks => 1 + szs ks
def szs : List (Str × Nd) → Nat
  | [] => 0
  | (_, t) :: r => sz t + szs r
end
def kidL : List (Str × Nd) → Str → Option Nd
  | [], _ => none
  | (k, t) :: r, n => if k = n then some t else kidL r n
def kid : Nd → Str → Option Nd
  | .dir ks, n => kidL ks n
  | _, _ => none
def sub : Nd → List Str → Option Nd
  | t, [] => some t
  | t, n :: p => match kid t n with
    | some u => sub u p
    | none => none
theorem sub_append (t : Nd) : ∀ (p q : List Str), sub t (p ++ q) = match sub t p with | some u => sub u q | none => none
  | [], q => rfl
  | n :: p, q => by
    show (match kid t n with | some u => sub u (p ++ q) | none => none) = match (match kid t n with | some u => sub u p | none => none) with | some u => sub u q | none => none
    cases kid t n with
    | none => rfl
    | some u => exact sub_append u p q
theorem sub_snoc {t u : Nd} {p : List Str} {n : Str} (h : sub t p = some u) : sub t (p ++ [n]) = kid u n := by
  rw [sub_append, h]
  show (match kid u n with | some v => sub v [] | none => none) = kid u n
  cases kid u n <;> rfl
theorem kidL_mem : ∀ {ks : List (Str × Nd)} {n : Str} {t : Nd}, kidL ks n = some t → ∃ i : Nat, ks[i]? = some (n, t)
  | [], n, t, h => by cases h
  | (k, u) :: r, n, t, h => by
    unfold kidL at h
    split at h
    · rename_i e
      cases h
      exact ⟨0, by rw [e]; rfl⟩
    · obtain ⟨i, hi⟩ := kidL_mem h
      exact ⟨i + 1, hi⟩
theorem kidL_at : ∀ {ks : List (Str × Nd)} {i : Nat} {n : Str} {t : Nd}, (ks.map (·.1)).Nodup → ks[i]? = some (n, t) → kidL ks n = some t
  | [], i, n, t, _, h => by simp at h
  | (k, u) :: r, 0, n, t, hn, h => by
    have e : (k, u) = (n, t) := Option.some.inj h
    cases e
    unfold kidL
    rw [if_pos rfl]
  | (k, u) :: r, i + 1, n, t, hn, h => by
    have hn' : (k :: r.map (·.1)).Nodup := hn
    obtain ⟨h1, h2⟩ := List.nodup_cons.mp hn'
    have hr : r[i]? = some (n, t) := h
    unfold kidL
    rw [if_neg (fun z => h1 (by rw [z]; exact List.mem_map.mpr ⟨(n, t), List.mem_of_getElem? hr, rfl⟩))]
    exact kidL_at h2 hr
theorem szs_drop {ks : List (Str × Nd)} : ∀ {i : Nat} {p : Str × Nd}, ks[i]? = some p → szs (ks.drop i) = sz p.2 + szs (ks.drop (i + 1)) := by
  induction ks with
  | nil =>
    intro i p h
    simp at h
  | cons q r ih =>
    intro i p h
    cases i with
    | zero =>
      have e : q = p := Option.some.inj h
      subst e
      obtain ⟨a, b⟩ := q
      rfl
    | succ i => exact ih (i := i) h
/-- the weight below a path -/
def cw (t : Nd) (p : List Str) : Nat := match sub t p with
  | some (.dir ks) => szs ks
  | _ => 0
theorem sz_cw {t u : Nd} {p : List Str} (h : sub t p = some u) : sz u = cw t p + 1 := by
  unfold cw
  rw [h]
  cases u with
  | fil i => rfl
  | lnk z => rfl
  | dir ks =>
    show 1 + szs ks = szs ks + 1
    omega
mutual
theorem nv_sz : ∀ (g : Nat) (t : Nd) (n : Nat) (t' : Nd) (m : Nat), nv g t n = some (t', m) → m = n + sz t'
  | 0, t, n, t', m, h => by cases h
  | g + 1, t, n, t', m, h => by
    rw [nv_succ] at h
    split at h
    · cases h
    · cases t with
      | fil i =>
        dsimp only at h
        split at h
        · cases h
          rfl
        · cases h
      | lnk z =>
        dsimp only at h
        split at h
        · cases h
          rfl
        · cases h
      | dir ks =>
        dsimp only at h
        split at h
        · cases e : nvs (nv g) (sortK ks) (n + 1) with
          | none =>
            rw [e] at h
            cases h
          | some q =>
            obtain ⟨r, m1⟩ := q
            rw [e] at h
            cases h
            have z := nvs_sz g _ _ _ _ e
            show m = n + (1 + szs r)
            omega
        · cases h
theorem nvs_sz : ∀ (g : Nat) (S : List (Str × Nd)) (n : Nat) (r : List (Str × Nd)) (m : Nat), nvs (nv g) S n = some (r, m) → m = n + szs r
  | g, [], n, r, m, h => by
    cases h
    rfl
  | g, p :: S, n, r, m, h => by
    rw [nvs_cons] at h
    cases e : nv g p.2 n with
    | none =>
      rw [e] at h
      cases h
    | some q =>
      obtain ⟨t, m1⟩ := q
      rw [e] at h
      dsimp only at h
      cases e2 : nvs (nv g) S m1 with
      | none =>
        rw [e2] at h
        cases h
      | some q2 =>
        obtain ⟨r', m'⟩ := q2
        rw [e2] at h
        cases h
        have z1 := nv_sz g _ _ _ _ e
        have z2 := nvs_sz g _ _ _ _ e2
        show m = n + (sz t + szs r')
        omega
end
/-! ### the flat dict of a tree -/
def pk (p : List Str) : List Key := p.map Sum.inr
theorem pk_kV (p : List Str) : (pk p).map kV = p.map V.str := by
  unfold pk
  rw [List.map_map]
  rfl
theorem pk_inj : ∀ {p q : List Str}, pk p = pk q → p = q
  | [], [], _ => rfl
  | [], _ :: _, h => by cases h
  | _ :: _, [], h => by cases h
  | a :: p, b :: q, h => by
    have h' : (Sum.inr a : Key) :: pk p = Sum.inr b :: pk q := h
    injection h' with h1 h2
    rw [Sum.inr.inj h1, pk_inj h2]
def wsum (t : Nd) : List (Addr × List Str) → Nat
  | [] => 0
  | q :: r => cw t q.2 + wsum t r
theorem wsum_append (t : Nd) : ∀ a b : List (Addr × List Str), wsum t (a ++ b) = wsum t a + wsum t b
  | [], b => by
    show wsum t b = 0 + wsum t b
    omega
  | q :: a, b => by
    show cw t q.2 + wsum t (a ++ b) = cw t q.2 + wsum t a + wsum t b
    rw [wsum_append t a b]
    omega
/-- in the midst: HR the heap of the nodes, todo the paths whose names are still to come, now the path whose names come now with those that are left -/
structure Fl (HR : Hp) (t : Nd) (kvs : List (List Key × V)) (todo : List (Addr × List Str)) (now : List Str) (left : List (Str × Nd)) (M : Nat) : Prop where
  ok : ∀ k v, valV kvs k = some v → ∃ p u, k = pk p ∧ sub t p = some u ∧ NdAt HR v u
  td : ∀ q ∈ todo, ∃ v, valV kvs (pk q.2) = some v
  all : ∀ p u, sub t p = some u → (∃ v, valV kvs (pk p) = some v) ∨ (∃ q ∈ todo, ∃ r, r ≠ [] ∧ p = q.2 ++ r) ∨ ∃ e ∈ left, ∃ r, p = now ++ e.1 :: r
  nd : (kvs.map (·.1)).Nodup
  wt : kvs.length + wsum t todo + szs left ≤ 61
  ms : wsum t todo + todo.length + szs left ≤ M
theorem nd_put {kvs : List (List Key × V)} {k : List Key} (v : V) (hn : (kvs.map (·.1)).Nodup) : ((putK kvs k v).map (·.1)).Nodup := by
  cases e : valV kvs k with
  | none => exact nd_putK v hn e
  | some w =>
    have z : (putK kvs k v).map (·.1) = kvs.map (·.1) := by
      unfold putK
      split
      · rw [List.map_map]
        refine List.map_congr_left fun x _ => ?_
        show (if x.1 = k then (x.1, v) else x).1 = x.1
        split <;> rfl
      · rename_i c
        exfalso
        apply c
        unfold valV at e
        cases e2 : kvs.find? (fun q => decide (q.1 = k)) with
        | none =>
          rw [e2] at e
          cases e
        | some q => exact List.any_eq_true.mpr ⟨q, List.mem_of_find?_eq_some e2, (by have z := List.find?_some e2; exact z)⟩
    rw [z]
    exact hn
theorem Fl.start {HR : Hp} {t : Nd} {v : V} {b : Addr} (h : NdAt HR v t) (hz : sz t ≤ 61) : Fl HR t [([], v)] [(b, [])] [] [] (sz t) where
  ok := fun k w e => by
    by_cases c : ([] : List Key) = k
    · rw [valV_pos c] at e
      exact ⟨[], t, c.symm, rfl, Option.some.inj e ▸ h⟩
    · rw [valV_neg c] at e
      cases e
  td := fun q hq => by
    rw [List.mem_singleton] at hq
    subst hq
    exact ⟨v, valV_pos rfl⟩
  all := fun p u e => by
    cases p with
    | nil => exact .inl ⟨v, valV_pos rfl⟩
    | cons n r => exact .inr (.inl ⟨(b, []), List.mem_singleton.mpr rfl, n :: r, by simp, rfl⟩)
  nd := by simp
  wt := by
    have e : sz t = cw t [] + 1 := sz_cw rfl
    show 1 + (cw t [] + 0) + 0 ≤ 61
    omega
  ms := by
    have e : sz t = cw t [] + 1 := sz_cw rfl
    show cw t [] + 0 + 1 + 0 ≤ sz t
    omega
theorem Fl.pop {HR : Hp} {t u : Nd} {kvs : List (List Key × V)} {r : List (Addr × List Str)} {q : Addr × List Str} {now : List Str} {M : Nat} (h : Fl HR t kvs (r ++ [q]) now [] M) (hu : sub t q.2 = some u) (ks : List (Str × Nd)) (hk : u = .dir ks ∨ (ks = [] ∧ ∀ ks, u ≠ .dir ks)) : Fl HR t kvs r q.2 ks (M - 1) ∧ 0 < M where
  left := {
    ok := h.ok
    td := fun p hp => h.td p (List.mem_append_left _ hp)
    all := fun p w e => by
      rcases h.all p w e with c | ⟨q1, h1, r1, n1, e1⟩ | ⟨x, hx, _⟩
      · exact .inl c
      · rcases List.mem_append.mp h1 with h2 | h2
        · exact .inr (.inl ⟨q1, h2, r1, n1, e1⟩)
        · rw [List.mem_singleton] at h2
          subst h2
          cases r1 with
          | nil => exact absurd rfl n1
          | cons n r1 =>
            rw [e1, sub_append, hu] at e
            have e2 : (match kid u n with | some v => sub v r1 | none => none) = some w := e
            rcases hk with hk | ⟨_, hk⟩
            · subst hk
              have e3 : (match kidL ks n with | some v => sub v r1 | none => none) = some w := e2
              cases ek : kidL ks n with
              | none =>
                rw [ek] at e3
                cases e3
              | some v =>
                obtain ⟨i, hi⟩ := kidL_mem ek
                exact .inr (.inr ⟨(n, v), List.mem_of_getElem? hi, r1, e1⟩)
            · exfalso
              cases u with
              | fil i => cases e2
              | lnk z => cases e2
              | dir ks' => exact hk ks' rfl
      · cases hx
    nd := h.nd
    wt := by
      have z := h.wt
      rw [wsum_append] at z
      have z2 : wsum t [q] = cw t q.2 + 0 := rfl
      have z3 : szs ([] : List (Str × Nd)) = 0 := rfl
      have e := sz_cw hu
      rcases hk with hk | ⟨hk, _⟩
      · subst hk
        have e2 : sz (.dir ks) = 1 + szs ks := rfl
        omega
      · subst hk
        omega
    ms := by
      have z := h.ms
      rw [wsum_append, List.length_append] at z
      have z2 : wsum t [q] = cw t q.2 + 0 := rfl
      have z3 : szs ([] : List (Str × Nd)) = 0 := rfl
      have z4 : [q].length = 1 := rfl
      have e := sz_cw hu
      rcases hk with hk | ⟨hk, _⟩
      · subst hk
        have e2 : sz (.dir ks) = 1 + szs ks := rfl
        omega
      · subst hk
        omega }
  right := by
    have z := h.ms
    rw [List.length_append] at z
    have z4 : [q].length = 1 := rfl
    omega
theorem Fl.step {HR : Hp} {t : Nd} {kvs : List (List Key × V)} {todo : List (Addr × List Str)} {now : List Str} {e : Str × Nd} {left : List (Str × Nd)} {M : Nat} (h : Fl HR t kvs todo now (e :: left) M) {v : V} (b : Addr) (hv : NdAt HR v e.2) (hu : sub t (now ++ [e.1]) = some e.2) :
    Fl HR t (putK kvs (pk (now ++ [e.1])) v) (todo ++ [(b, now ++ [e.1])]) now left M where
  ok := fun k w hw => by
    rw [valV_put] at hw
    split at hw
    · rename_i c
      exact ⟨_, _, c, hu, Option.some.inj hw ▸ hv⟩
    · exact h.ok k w hw
  td := fun q hq => by
    rw [valV_put]
    rcases List.mem_append.mp hq with h1 | h1
    · obtain ⟨w, hw⟩ := h.td q h1
      split
      · exact ⟨v, rfl⟩
      · exact ⟨w, hw⟩
    · rw [List.mem_singleton] at h1
      subst h1
      rw [if_pos rfl]
      exact ⟨v, rfl⟩
  all := fun p u e0 => by
    rcases h.all p u e0 with ⟨w, c⟩ | ⟨q1, h1, r1, n1, e1⟩ | ⟨x, hx, r, er⟩
    · refine .inl ?_
      rw [valV_put]
      split
      · exact ⟨v, rfl⟩
      · exact ⟨w, c⟩
    · exact .inr (.inl ⟨q1, List.mem_append_left _ h1, r1, n1, e1⟩)
    · rcases List.mem_cons.mp hx with c | c
      · subst c
        cases r with
        | nil =>
          refine .inl ?_
          rw [valV_put, er, if_pos rfl]
          exact ⟨v, rfl⟩
        | cons n r =>
          refine .inr (.inl ⟨(b, now ++ [x.1]), List.mem_append_right _ (List.mem_singleton.mpr rfl), n :: r, by simp, ?_⟩)
          rw [er]
          simp
      · exact .inr (.inr ⟨x, c, r, er⟩)
  nd := nd_put v h.nd
  wt := by
    have z := h.wt
    have z1 := DSub.putK_len kvs (pk (now ++ [e.1])) v
    rw [wsum_append]
    have z2 : wsum t [(b, now ++ [e.1])] = cw t (now ++ [e.1]) + 0 := rfl
    have z3 : szs (e :: left) = sz e.2 + szs left := by
      obtain ⟨a, b⟩ := e
      rfl
    have z4 := sz_cw hu
    omega
  ms := by
    have z := h.ms
    rw [wsum_append, List.length_append]
    have z2 : wsum t [(b, now ++ [e.1])] = cw t (now ++ [e.1]) + 0 := rfl
    have z5 : [(b, now ++ [e.1])].length = 1 := rfl
    have z3 : szs (e :: left) = sz e.2 + szs left := by
      obtain ⟨a, b⟩ := e
      rfl
    have z4 := sz_cw hu
    omega
/-- a tree's object: its nodes by their paths -/
structure FlatD (HR : Hp) (t : Nd) (kvs : List (List Key × V)) : Prop where
  ok : ∀ k v, valV kvs k = some v → ∃ p u, k = pk p ∧ sub t p = some u ∧ NdAt HR v u
  all : ∀ p u, sub t p = some u → ∃ v, valV kvs (pk p) = some v
  nd : (kvs.map (·.1)).Nodup
  ln : kvs.length ≤ 61
theorem Fl.flat {HR : Hp} {t : Nd} {kvs : List (List Key × V)} {now : List Str} {M : Nat} (h : Fl HR t kvs [] now [] M) : FlatD HR t kvs where
  ok := h.ok
  all := fun p u e => by
    rcases h.all p u e with c | ⟨q1, h1, _⟩ | ⟨x, hx, _⟩
    · exact c
    · cases h1
    · cases hx
  nd := h.nd
  ln := by
    have := h.wt
    omega
theorem FlatD.get {HR : Hp} {t u : Nd} {kvs : List (List Key × V)} {p : List Str} (h : FlatD HR t kvs) (e : sub t p = some u) : ∃ v, valV kvs (pk p) = some v ∧ NdAt HR v u := by
  obtain ⟨v, hv⟩ := h.all p u e
  obtain ⟨p', u', ep, eu, hn⟩ := h.ok _ v hv
  cases pk_inj ep
  rw [e] at eu
  cases eu
  exact ⟨v, hv, hn⟩
theorem FlatD.no {HR : Hp} {t : Nd} {kvs : List (List Key × V)} {p : List Str} (h : FlatD HR t kvs) (e : sub t p = none) : valV kvs (pk p) = none := by
  cases hv : valV kvs (pk p) with
  | none => rfl
  | some v =>
    obtain ⟨p', u', ep, eu, hn⟩ := h.ok _ v hv
    cases pk_inj ep
    rw [e] at eu
    cases eu
theorem FlatD.mono {H H' : Hp} {t : Nd} {kvs : List (List Key × V)} (h : FlatD H t kvs) (k : DKeep H H') : FlatD H' t kvs := ⟨fun x v e => let ⟨p, u, a, b, c⟩ := h.ok x v e; ⟨p, u, a, b, c.mono k⟩, h.all, h.nd, h.ln⟩
end Tx
set_option Elab.async false
set_option linter.all false
set_option maxRecDepth 100000
set_option maxHeartbeats 8000000
namespace Tx
open PySem PySem.Spec PyProof.Rows L2 Cm
abbrev sInit : Stmt := inClass sTree 0
abbrev nI : List Str := ["self", "top", "todo", "at", "name"]
theorem scInit : FnScope nI ["self", "top"] (defScope sInit) := ⟨rfl, rfl, rfl, by decide +kernel, rfl, by decide +kernel, by decide +kernel⟩
def tI (i : Nat) : Stmt := (defBody sInit).getD i (.Pass ⟨0, 0, 0, 0⟩)
theorem bodyInit : defBody sInit = [tI 0, tI 1, tI 2, tI 3] := rfl
def whB (s : Stmt) (i : Nat) : Stmt := match s with | .While _ b _ _ => b.getD i (.Pass ⟨0, 0, 0, 0⟩) | _ => .Pass ⟨0, 0, 0, 0⟩
def ifB (s : Stmt) (i : Nat) : Stmt := match s with | .If _ b _ _ => b.getD i (.Pass ⟨0, 0, 0, 0⟩) | _ => .Pass ⟨0, 0, 0, 0⟩
def foB (s : Stmt) (i : Nat) : Stmt := match s with | .For _ _ b _ _ => b.getD i (.Pass ⟨0, 0, 0, 0⟩) | _ => .Pass ⟨0, 0, 0, 0⟩
def tIf : Stmt := whB (tI 3) 1
def tFo : Stmt := ifB tIf 0
/-- the class Tree -/
structure Tr (K : PySem.W.Frag) (mg : Str → Option Value) (C : Addr) : Prop where
  cl : Cls K C
  nN : NoAttr K C "nodes"
  mgC : mg "Tree" = some (.ref C)
def fl (N : Addr) : List (Str × V) := putF "nodes" (.ref N) []
theorem fl_nodes (N : Addr) : (fl N).lookup ("nodes" : Str) = some (.ref N) := by
  unfold fl
  rw [lookup_putF, if_pos rfl]
theorem fl_no (N : Addr) {m : Str} (h : ¬ m = "nodes") : (fl N).lookup m = none := by
  unfold fl
  rw [lookup_putF, if_neg h]
  rfl
/-- t + (y,) -/
theorem cat1 {K : PySem.W.Frag} {a p : Addr} {xs : List V} {y : V} {H : Hp} {Q : VK} (ha : H a = some (.tup xs)) (hl : xs.length ≤ 100) (hp : H p = none) (q : ∀ b H2, Same H H2 → H2 b = some (.tup (xs ++ [y])) → Q (.ref b) H2) :
    rCatA K (.ref a) (.ref p) (upd H p (.tup [y])) Q := by
  have sm : Same H (upd H p (.tup [y])) := same_new hp
  refine ⟨a, p, xs, [y], rfl, rfl, SqT.of (sm _ _ ha), SqT.of upd_same, Nat.le_of_lt (small1000 (by show xs.length + 1 ≤ 1000; omega)), fun e => q p _ sm (by rw [e]; exact upd_same), fun _ e => (nomatch e), fun _ _ p2 hp2 => q p2 _ (fun b o e => ?_) upd_same⟩
  rw [upd_ne (ne_of_none (sm _ _ e) hp2)]
  exact sm _ _ e
theorem szs_mem : ∀ {ks : List (Str × Nd)} {i : Nat} {p : Str × Nd}, ks[i]? = some p → sz p.2 ≤ szs ks
  | [], i, p, h => by simp at h
  | (k, u) :: r, 0, p, h => by
    have e : (k, u) = p := Option.some.inj h
    subst e
    show sz u ≤ sz u + szs r
    omega
  | (k, u) :: r, i + 1, p, h => by
    have z := szs_mem (ks := r) (i := i) h
    show sz p.2 ≤ sz u + szs r
    omega
theorem sub_len : ∀ {p : List Str} {t u : Nd}, sub t p = some u → p.length + sz u ≤ sz t
  | [], t, u, h => by
    cases h
    show 0 + sz t ≤ sz t
    omega
  | n :: p, t, u, h => by
    have h' : (match kid t n with | some u => sub u p | none => none) = some u := h
    cases e : kid t n with
    | none =>
      rw [e] at h'
      cases h'
    | some v =>
      rw [e] at h'
      have ih := sub_len (p := p) h'
      cases t with
      | fil i => cases e
      | lnk z => cases e
      | dir ks =>
        obtain ⟨i, hi⟩ := kidL_mem (show kidL ks n = some v from e)
        have z := szs_mem hi
        have z2 : sz (.dir ks) = 1 + szs ks := rfl
        show p.length + 1 + sz u ≤ sz (.dir ks)
        dsimp only at z
        omega
/-- the heap in __init__'s loops: H at the entry, HR the new nodes -/
structure LS (H HR : Hp) (CT x N L dx : Addr) (t : Nd) (H' : Hp) (kvs : List (List Key × V)) (todo : List (Addr × List Str)) : Prop where
  ox : H' x = some (.ins CT dx (fl N))
  on : H' N = some (.dT kvs)
  ol : H' L = some (.lst (todo.map fun q => V.ref q.1))
  ot : ∀ q ∈ todo, H' q.1 = some (.tup (q.2.map V.str))
  kp : But x H H'
/-- what never changes -/
structure LC (H HR : Hp) (x N L : Addr) (t : Nd) : Prop where
  hx : ∃ o, H x = some o
  hN : H N = none
  hL : H L = none
  hR : ∀ b o, HR b = some o → H b = none
  nR : ∀ kv, HR N ≠ some (.dK kv)
  lR : ∀ kv, HR L ≠ some (.dK kv)
  sz : sz t ≤ 61
section
variable {P : Program} {w : World} {K : PySem.W.Frag} {mg : Str → Option Value} {base : Heap} {f C CT : Addr} {cdv : Value} {A : Around} {outer : List Env} {s : Shared} {H0 : Hp} {E : XK}
abbrev XI (P : Program) (w : World) (K : PySem.W.Frag) (mg : Str → Option Value) (base : Heap) (f : Addr) (cdv : Value) (A : Around) (outer : List Env) (s : Shared) (H0 : Hp) (E : XK) : Cx := cxOf (L2.CX P w) P w K mg base nI "Tree.__init__" (defScope sInit) f cdv A outer s H0 E
def sI (x L : Addr) (v : V) (a n : Option V) : L2.St := [some (.ref x), some v, some (.ref L), a, n]
/-- for name in self.nodes[at]: both lines -/
theorem hFB (T : Tr K mg CT) (hr : Room 1 (XI P w K mg base f cdv A outer s H0 E).A) :
    ∃ tb, PSs (XI P w K mg base f cdv A outer s H0 E) [foB tFo 0, foB tFo 1] tb ∧ ∀ (D : Ends) {H HR H1 : Hp} {x N L dx d a : Addr} {v : V} {t : Nd} {now : List Str} {od : Obj} {kvd : List (Key × V)} {u : V} {e : Str × Nd} {left : List (Str × Nd)} {M : Nat} {kvs : List (List Key × V)} {todo : List (Addr × List Str)}, LC H HR x N L t → M ≤ 61 →
      valV kvd (Sum.inr e.1 : Key) = some u → NdAt HR u e.2 → sub t (now ++ [e.1]) = some e.2 → LS H HR CT x N L dx t H1 kvs todo → Fl HR t kvs todo now (e :: left) M → H1 d = some (.frz od (.dK kvd)) → H1 a = some (.tup (now.map V.str)) → valV kvs (pk now) = some (.ref d) →
      (∀ b kv, b ≠ d → HR b = some (.dK kv) → H1 b = some (.dK kv)) → (∀ H' kvs todo, LS H HR CT x N L dx t H' kvs todo → Fl HR t kvs todo now left M → H' d = some (.frz od (.dK kvd)) → H' a = some (.tup (now.map V.str)) → valV kvs (pk now) = some (.ref d) → (∀ b kv, b ≠ d → HR b = some (.dK kv) → H' b = some (.dK kv)) → D.nx (sI x L v (some (.ref a)) (some (.str e.1))) H') →
      tb D (sI x L v (some (.ref a)) (some (.str e.1))) H1 := by
  have hu1 : (XI P w K mg base f cdv A outer s H0 E).A.units + 1 < cLine := by
    have := hr.units
    omega
  refine ⟨_, pss_cons (ps_dput hu1 (pe_fld (pv 0) rfl) (pe_op op_catA (pv 3) (pe_tup (pa_cons (pv 4) pa_nil))) (pe_dget hu1 (pe_dget hu1 (pe_fld (pv 0) rfl) (pv 3) (fun _ _ => rfl)) (pv 4) (fun _ _ => rfl)) rfl)
    (pss_one (ps_expr (pe_bm PySem.F.plainAttrs_list PySem.F.slot_list_append PySem.F.type_list_append mt_append (pv 2) (pa_cons (pe_op op_catA (pv 3) (pe_tup (pa_cons (pv 4) pa_nil))) pa_nil)))), ?_⟩
  intro D H HR H1 x N L dx d a v t now od kvd u e left M kvs todo Lc hM hg hv hu S F hd ha hn hk q
  have hnl : now.length ≤ 61 := by
    have z1 := sub_len hu
    rw [List.length_append] at z1
    have := Lc.sz
    omega
  have g1 : DGet H1 N (.ref a) (some (.ref d)) := by
    have z := DGet.t (k := pk now) S.on (by rw [pk_kV]; exact ha)
    rw [hn] at z
    exact z
  have g2 : DGet H1 d (.str e.1) (some u) := by
    refine .inl ⟨kvd, Sum.inr e.1, .inr ⟨od, hd⟩, rfl, hg.symm⟩
  refine ⟨_, rfl, x, CT, dx, fl N, .ref N, rfl, S.ox, T.cl, T.nN, fl_nodes N, _, rfl, N, .ref d, rfl, g1, _, rfl, d, u, rfl, g2, ?_⟩
  refine ⟨_, rfl, x, CT, dx, fl N, .ref N, rfl, S.ox, T.cl, T.nN, fl_nodes N, _, rfl, _, rfl, (by show 1 ≤ sizeLine; decide +kernel), fun p hp => ?_⟩
  refine cat1 ha (by rw [List.length_map]; omega) hp fun b H2 s2 hb => ?_
  have hb' : H2 b = some (.tup ((pk (now ++ [e.1])).map kV)) := by
    rw [pk_kV, List.map_append]
    exact hb
  have hkl : kvs.length ≤ 61 := by
    have := F.wt
    omega
  refine ⟨N, _, rfl, DPut.t (s2 _ _ S.on) hb' (small1000 (by omega)), ?_⟩
  have nNL : N ≠ L := ne_of S.on S.ol (by intro z; cases z)
  have nNx : N ≠ x := ne_of S.on S.ox (by intro z; cases z)
  have nLx : L ≠ x := ne_of S.ol S.ox (by intro z; cases z)
  have naN : a ≠ N := ne_of ha S.on (by intro z; cases z)
  have naL : a ≠ L := ne_of ha S.ol (by intro z; cases z)
  have ndN : d ≠ N := ne_of hd S.on (by intro z; cases z)
  have ndL : d ≠ L := ne_of hd S.ol (by intro z; cases z)
  obtain ⟨H3, e3⟩ : ∃ H3, H3 = upd H2 N (.dT (putK kvs (pk (now ++ [e.1])) u)) := ⟨_, rfl⟩
  rw [← e3]
  have st3 : ∀ b o, H1 b = some o → b ≠ N → H3 b = some o := fun b o h n => by
    rw [e3, upd_ne n]
    exact s2 _ _ h
  have hL3 : H3 L = some (.lst (todo.map fun q => V.ref q.1)) := st3 _ _ S.ol nNL.symm
  have hN3 : H3 N = some (.dT (putK kvs (pk (now ++ [e.1])) u)) := by rw [e3]; exact upd_same
  have htl : todo.length ≤ 200 := by
    have := F.ms
    omega
  refine ⟨_, rfl, .inl ⟨rfl, _, SqL.of hL3⟩, _, rfl, _, rfl, (by show 1 ≤ sizeLine; decide +kernel), fun p3 hp3 => ?_⟩
  refine cat1 (st3 _ _ ha naN) (by rw [List.length_map]; omega) hp3 fun b2 H4 s4 hb2 => ?_
  refine ⟨L, _, _, rfl, rfl, s4 _ _ hL3, small1000 (by rw [List.length_map]; omega), ?_⟩
  obtain ⟨H5, e5⟩ : ∃ H5, H5 = upd H4 L (.lst ((todo.map fun q => V.ref q.1) ++ [V.ref b2])) := ⟨_, rfl⟩
  have st5 : ∀ b o, H1 b = some o → b ≠ N → b ≠ L → H5 b = some o := fun b o h n n2 => by
    rw [e5, upd_ne n2]
    exact s4 _ _ (st3 b o h n)
  rw [← e5]
  have b2L : b2 ≠ L := ne_of hb2 (s4 _ _ hL3) (by intro z; cases z)
  refine q H5 _ (todo ++ [(b2, now ++ [e.1])]) ⟨st5 _ _ S.ox nNx.symm nLx.symm, ?_, ?_, ?_, ?_⟩ (F.step b2 hv hu) (st5 _ _ hd ndN ndL) (st5 _ _ ha naN naL) ?_ ?_
  · rw [e5, upd_ne nNL]
    exact s4 _ _ hN3
  · rw [e5, upd_same, List.map_append]
    rfl
  · intro q0 hq0
    rcases List.mem_append.mp hq0 with h1 | h1
    · exact st5 _ _ (S.ot q0 h1) (ne_of (S.ot q0 h1) S.on (by intro z; cases z)) (ne_of (S.ot q0 h1) S.ol (by intro z; cases z))
    · rw [List.mem_singleton] at h1
      subst h1
      rw [e5]
      show upd H4 L _ b2 = some (.tup ((now ++ [e.1]).map V.str))
      rw [upd_ne b2L, hb2, List.map_append]
      rfl
  · intro b o nb hb0
    have nN : b ≠ N := fun z => by
      rw [z, Lc.hN] at hb0
      cases hb0
    have nL : b ≠ L := fun z => by
      rw [z, Lc.hL] at hb0
      cases hb0
    exact st5 _ _ (S.kp b o nb hb0) nN nL
  · rw [valV_put, if_neg, hn]
    intro z
    have z2 := pk_inj z
    have z3 := congrArg List.length z2
    rw [List.length_append] at z3
    have z4 : [e.1].length = 1 := rfl
    omega
  · intro b kv nb hb0
    exact st5 _ _ (hk b kv nb hb0) (fun z => Lc.nR kv (z ▸ hb0)) (fun z => Lc.lR kv (z ▸ hb0))
/-- the for loop -/
theorem hFo (T : Tr K mg CT) (hr : Room 1 (XI P w K mg base f cdv A outer s H0 E).A) :
    ∃ tf, PS (XI P w K mg base f cdv A outer s H0 E) tFo tf ∧ ∀ (D : Ends) {H HR H1 : Hp} {x N L dx d a : Addr} {v : V} {n : Option V} {t : Nd} {now : List Str} {ks : List (Str × Nd)} {M : Nat} {kvs : List (List Key × V)} {todo : List (Addr × List Str)}, LC H HR x N L t → M ≤ 61 →
      NdAt HR (.ref d) (.dir ks) → sub t now = some (.dir ks) → LS H HR CT x N L dx t H1 kvs todo → Fl HR t kvs todo now ks M → H1 a = some (.tup (now.map V.str)) → valV kvs (pk now) = some (.ref d) → DKeep HR H1 →
      (∀ n' H' kvs todo, LS H HR CT x N L dx t H' kvs todo → Fl HR t kvs todo now [] M → DKeep HR H' → D.nx (sI x L v (some (.ref a)) n') H') →
      tf D (sI x L v (some (.ref a)) n) H1 := by
  have hu1 : (XI P w K mg base f cdv A outer s H0 E).A.units + 1 < cLine := by
    have := hr.units
    omega
  obtain ⟨tb, hb, rb⟩ := hFB (P := P) (w := w) (base := base) (f := f) (cdv := cdv) (A := A) (outer := outer) (s := s) (H0 := H0) (E := E) T hr
  refine ⟨_, ps_lock (ps_for (passes_of rfl) rfl (pi_keys (pe_dget hu1 (pe_fld (pv 0) rfl) (pv 3) (fun _ _ => rfl))) (pg_name (i := 4) scInit.nd rfl (Or.inl rfl)) hb), ?_⟩
  intro D H HR H1 x N L dx d a v n t now ks M kvs todo Lc hM hnd hsub S F ha hn hk q
  cases hnd with
  | @dir _ kvd _ h hkk hnn hl hz hv =>
  have h1 : H1 d = some (.dK kvd) := hk _ _ h
  refine ⟨d, .dK kvd, h1, True.intro, fun od => ?_⟩
  have nxd : x ≠ d := ne_of S.ox h1 (by intro z; cases z)
  have nNd : N ≠ d := ne_of S.on h1 (by intro z; cases z)
  have nLd : L ≠ d := ne_of S.ol h1 (by intro z; cases z)
  have nad : a ≠ d := ne_of ha h1 (by intro z; cases z)
  have hHd : H d = none := Lc.hR _ _ h
  obtain ⟨H2, e2⟩ : ∃ H2, H2 = upd H1 d (.frz od (.dK kvd)) := ⟨_, rfl⟩
  have st2 : ∀ b o, H1 b = some o → b ≠ d → H2 b = some o := fun b o hb n => by
    rw [e2, upd_ne n]
    exact hb
  rw [← e2]
  have S2 : LS H HR CT x N L dx t H2 kvs todo := ⟨st2 _ _ S.ox nxd, st2 _ _ S.on nNd, st2 _ _ S.ol nLd, fun q0 h0 => st2 _ _ (S.ot q0 h0) (ne_of (S.ot q0 h0) h1 (by intro z; cases z)), fun b o nb hb0 => st2 _ _ (S.kp b o nb hb0) (fun z => by
    rw [z, hHd] at hb0
    cases hb0)⟩
  have ha2 := st2 _ _ ha nad
  have hd2 : H2 d = some (.frz od (.dK kvd)) := by rw [e2]; exact upd_same
  have hkn : (kvd.map (·.1)).Nodup := by
    have z : kvd.map (·.1) = (ks.map (·.1)).map (Sum.inr : Str → Key) := by
      rw [List.map_map]
      exact hkk
    rw [z]
    unfold List.Nodup at hnn ⊢
    rw [List.pairwise_map]
    exact hnn.imp fun h e => h (Sum.inr.inj e)
  have hlen : kvd.length = ks.length := by
    have e := congrArg List.length hkk
    rw [List.length_map, List.length_map] at e
    exact e
  have g1 : DGet H2 N (.ref a) (some (.ref d)) := by
    have z := DGet.t (k := pk now) S2.on (by rw [pk_kV]; exact ha2)
    rw [hn] at z
    exact z
  refine ⟨_, rfl, x, CT, dx, fl N, .ref N, rfl, S2.ox, T.cl, T.nN, fl_nodes N, _, rfl, N, .ref d, rfl, g1, d, od, rfl, .inl ⟨kvd, hd2, for_it walk_keys (fun i σ H3 => ∃ n' kvs' todo', σ = sI x L v (some (.ref a)) n' ∧ LS H HR CT x N L dx t H3 kvs' todo' ∧ Fl HR t kvs' todo' now (ks.drop i) M ∧ H3 d = some (.frz od (.dK kvd)) ∧ H3 a = some (.tup (now.map V.str)) ∧ valV kvs' (pk now) = some (.ref d) ∧ ∀ b kv, b ≠ d → HR b = some (.dK kv) → H3 b = some (.dK kv)) ?_ ?_ ?_ ?_⟩⟩
  · exact ⟨n, kvs, todo, rfl, S2, F, hd2, ha2, hn, fun b kv nb hb0 => st2 _ _ (hk _ _ hb0) nb⟩
  · rintro i σ H3 _ ⟨_, _, _, _, _, _, h3, _⟩
    exact h3
  · rintro i y σ H3 H4 hi ⟨n', kvs', todo', rfl, S3, F3, hd3, ha3, hn3, hk3⟩ ⟨rfl, k, u, hku, rfl⟩
    have hi' : i < ks.length := by omega
    obtain ⟨e, he⟩ : ∃ e, ks[i]? = some e := ⟨_, List.getElem?_eq_getElem hi'⟩
    have ek : k = Sum.inr e.1 := by
      have e1 : (kvd.map (·.1))[i]? = some k := by rw [List.getElem?_map, hku]; rfl
      rw [hkk, List.getElem?_map, he] at e1
      exact (Option.some.inj e1).symm
    subst ek
    have ed : ks.drop i = e :: ks.drop (i + 1) := by
      rw [List.drop_eq_getElem_cons hi']
      congr 1
      rw [List.getElem?_eq_getElem hi'] at he
      exact Option.some.inj he
    rw [ed] at F3
    refine rb _ Lc hM (valV_at hkn hku) (hv i _ e hku he) ?_ S3 F3 hd3 ha3 hn3 hk3 fun H5 kvs5 todo5 S5 F5 hd5 ha5 hn5 hk5 => ⟨_, kvs5, todo5, rfl, S5, F5, hd5, ha5, hn5, hk5⟩
    rw [sub_snoc hsub]
    exact kidL_at (i := i) hnn he
  · rintro σ H3 ⟨n', kvs', todo', rfl, S3, F3, hd3, ha3, hn3, hk3⟩
    refine ⟨hd3, ?_⟩
    have ed : ks.drop kvd.length = [] := List.drop_eq_nil_of_le (by omega)
    rw [ed] at F3
    have st4 : ∀ b o, H3 b = some o → b ≠ d → upd H3 d (.dK kvd) b = some o := fun b o hb n => by
      rw [upd_ne n]
      exact hb
    refine q n' _ kvs' todo' ⟨st4 _ _ S3.ox nxd, st4 _ _ S3.on nNd, st4 _ _ S3.ol nLd, fun q0 h0 => st4 _ _ (S3.ot q0 h0) (ne_of (S3.ot q0 h0) hd3 (by intro z; cases z)), fun b o nb hb0 => st4 _ _ (S3.kp b o nb hb0) (fun z => by
      rw [z, hHd] at hb0
      cases hb0)⟩ F3 fun b kv hb0 => ?_
    by_cases c : b = d
    · subst c
      rw [h] at hb0
      cases hb0
      exact upd_same
    · exact st4 _ _ (hk3 b kv c hb0) c
end
end Tx
set_option Elab.async false
set_option linter.all false
set_option maxRecDepth 100000
set_option maxHeartbeats 8000000
namespace Tx
open PySem PySem.Spec PyProof.Rows L2 Cm
section
variable {P : Program} {w : World} {K : PySem.W.Frag} {mg : Str → Option Value} {base : Heap} {f C CT : Addr} {fd : FuncData} {cdv : Value} {A : Around} {outer : List Env} {s : Shared} {H0 : Hp} {E : XK}
theorem hWh (B : Bi mg) (T : Tr K mg CT) (hr : Room 1 (XI P w K mg base f cdv A outer s H0 E).A) :
    ∃ tw, PS (XI P w K mg base f cdv A outer s H0 E) (tI 3) tw ∧ ∀ (D : Ends) {H HR H1 : Hp} {x N L dx : Addr} {v : V} {a n : Option V} {t : Nd} {now : List Str} {M : Nat} {kvs : List (List Key × V)} {todo : List (Addr × List Str)}, LC H HR x N L t → M ≤ 61 →
      LS H HR CT x N L dx t H1 kvs todo → Fl HR t kvs todo now [] M → DKeep HR H1 →
      (∀ σ H' kvs, LS H HR CT x N L dx t H' kvs [] → FlatD HR t kvs → DKeep HR H' → D.nx σ H') →
      tw D (sI x L v a n) H1 := by
  have hu1 : (XI P w K mg base f cdv A outer s H0 E).A.units + 1 < cLine := by
    have := hr.units
    omega
  obtain ⟨tf, hf, rf⟩ := hFo (P := P) (w := w) (base := base) (f := f) (cdv := cdv) (A := A) (outer := outer) (s := s) (H0 := H0) (E := E) T hr
  refine ⟨_, ps_while (passes_of rfl) (pt_truth (pv 2) (fun _ => rfl)) (pss_cons (ps_set (i := 3) scInit.nd rfl (Or.inl rfl) (pe_bm0 PySem.F.plainAttrs_list PySem.F.slot_list_pop PySem.F.type_list_pop mt_pop (pv 2)))
    (pss_one (ps_if (pt_val (pe_callB call_isi (by rfl) B.isin (by decide +kernel) (pa_cons (pe_dget hu1 (pe_fld (pv 0) rfl) (pv 3) (fun _ _ => rfl)) (pa_cons (pe_bltn (v := .ty "dict") (by rfl) B.dict (by decide +kernel) rfl) pa_nil)))) (pss_one hf) pss_nil))), ?_⟩
  intro D H HR H1 x N L dx v a n t now M kvs todo Lc hM S F hk q
  refine ⟨fun m σ H' => ∃ a n kvs todo now, σ = sI x L v a n ∧ LS H HR CT x N L dx t H' kvs todo ∧ Fl HR t kvs todo now [] m ∧ DKeep HR H' ∧ m ≤ 61, ⟨M, a, n, kvs, todo, now, rfl, S, F, hk, hM⟩, ?_⟩
  clear S F hk hM
  rintro m σ H2 ⟨a, n, kvs, todo, now, rfl, S, F, hk, hM⟩
  rcases List.eq_nil_or_concat todo with e | ⟨r, q0, e⟩
  · subst e
    exact ⟨_, rfl, false, .inl ⟨_, SqL.of S.ol, rfl⟩, iteF (q _ _ kvs S F.flat hk)⟩
  · rw [List.concat_eq_append] at e
    subst e
    have el : (r ++ [q0]).map (fun q => V.ref q.1) = r.map (fun q => V.ref q.1) ++ [V.ref q0.1] := by
      rw [List.map_append]
      rfl
    refine ⟨_, rfl, true, .inl ⟨_, SqL.of S.ol, by rw [el]; simp⟩, iteT ⟨fun σ' H' => ∃ m', m' < m ∧ ∃ a n kvs todo now, σ' = sI x L v a n ∧ LS H HR CT x N L dx t H' kvs todo ∧ Fl HR t kvs todo now [] m' ∧ DKeep HR H' ∧ m' ≤ 61, fun _ _ h => h, ?_⟩⟩
    have hL := S.ol
    rw [el] at hL
    refine ⟨_, rfl, .inl ⟨rfl, _, SqL.of S.ol⟩, L, _, .ref q0.1, rfl, rfl, hL, by simp, ?_⟩
    have ed : (r.map (fun q => V.ref q.1) ++ [V.ref q0.1]).dropLast = r.map (fun q => V.ref q.1) := by simp
    rw [ed]
    obtain ⟨H3, e3⟩ : ∃ H3, H3 = upd H2 L (.lst (r.map fun q => V.ref q.1)) := ⟨_, rfl⟩
    rw [← e3]
    have st3 : ∀ b o, H2 b = some o → b ≠ L → H3 b = some o := fun b o h n => by
      rw [e3, upd_ne n]
      exact h
    have ht0 := S.ot q0 (by simp)
    have S3 : LS H HR CT x N L dx t H3 kvs r := ⟨st3 _ _ S.ox (ne_of S.ox S.ol (by intro z; cases z)), st3 _ _ S.on (ne_of S.on S.ol (by intro z; cases z)), by rw [e3]; exact upd_same, fun q1 h1 => st3 _ _ (S.ot q1 (List.mem_append_left _ h1)) (ne_of (S.ot q1 (List.mem_append_left _ h1)) S.ol (by intro z; cases z)), fun b o nb hb0 => st3 _ _ (S.kp b o nb hb0) (fun z => by
      rw [z, Lc.hL] at hb0
      cases hb0)⟩
    have ht3 : H3 q0.1 = some (.tup (q0.2.map V.str)) := st3 _ _ ht0 (ne_of ht0 S.ol (by intro z; cases z))
    have hk3 : DKeep HR H3 := fun b kv hb0 => st3 _ _ (hk b kv hb0) (fun z => Lc.lR kv (z ▸ hb0))
    obtain ⟨v0, hv0⟩ := F.td q0 (by simp)
    obtain ⟨p', u, ep, hsub, hnd⟩ := F.ok _ v0 hv0
    cases pk_inj ep
    have g1 : DGet H3 N (.ref q0.1) (some v0) := by
      have z := DGet.t (k := pk q0.2) S3.on (by rw [pk_kV]; exact ht3)
      rw [hv0] at z
      exact z
    refine ⟨_, rfl, x, CT, dx, fl N, .ref N, rfl, S3.ox, T.cl, T.nN, fl_nodes N, _, rfl, N, v0, rfl, g1, ?_⟩
    cases u with
    | dir ks =>
      obtain ⟨F3, hm⟩ := F.pop hsub ks (.inl rfl)
      obtain ⟨d, rfl, kvd, hd⟩ : ∃ d, v0 = .ref d ∧ ∃ kvd, HR d = some (.dK kvd) := by
        cases hnd with
        | dir h _ _ _ _ _ => exact ⟨_, rfl, _, h⟩
      refine ⟨_, .ty "dict", _, _, true, rfl, .ty _, .base (.dK (hk3 _ _ hd)), kit_ty (by decide +kernel), _, rfl, iteT ?_⟩
      refine rf _ Lc (by omega) hnd hsub S3 F3 ht3 hv0 hk3 fun n' H4 kvs4 todo4 S4 F4 hk4 => ?_
      exact ⟨m - 1, by omega, some (.ref q0.1), n', kvs4, todo4, _, rfl, S4, F4, hk4, by omega⟩
    | fil i =>
      obtain ⟨F3, hm⟩ := F.pop hsub [] (.inr ⟨rfl, fun _ z => nomatch z⟩)
      obtain rfl : v0 = .int i := by
        cases hnd
        rfl
      refine ⟨_, .ty "dict", _, _, false, rfl, .ty _, .base (.int i), kit_ty (by decide +kernel), _, rfl, iteF ?_⟩
      exact ⟨m - 1, by omega, some (.ref q0.1), n, kvs, r, _, rfl, S3, F3, hk3, by omega⟩
    | lnk z =>
      obtain ⟨F3, hm⟩ := F.pop hsub [] (.inr ⟨rfl, fun _ z => nomatch z⟩)
      obtain rfl : v0 = .str z := by
        cases hnd
        rfl
      refine ⟨_, .ty "dict", _, _, false, rfl, .ty _, .base (.str z), kit_ty (by decide +kernel), _, rfl, iteF ?_⟩
      exact ⟨m - 1, by omega, some (.ref q0.1), n, kvs, r, _, rfl, S3, F3, hk3, by omega⟩
/-- Tree(top) -/
def spTree (K : PySem.W.Frag) (CT C : Addr) : Sp := fun vs H Q E => ∃ x dx v, vs = [.ref x, v] ∧ H x = some (.ins CT dx []) ∧
  ((∃ ks, NdAt H v (.dir ks) ∧ (∀ t' n, nv 9 (.dir ks) 0 = some (t', n) → ∀ H' N kvs, H' x = some (.ins CT dx (fl N)) → newIn H H' N = some (.dT kvs) → FlatD (newIn H H') t' kvs → But x H H' → Q .non H') ∧ (nv 9 (.dir ks) 0 = none → ∀ H', But x H H' → E (.ref C) none H')) ∨
  ∃ ty, TyX K H v ty ∧ PySem.W.kitOne K ty (.type "dict") = some false ∧ E (.ref C) none H)
theorem ok_init (F : Fun K "__init__" "Tree.__init__" sInit f fd) (B : Bi mg) (T : Tr K mg CT) (Nt : No K mg C) (NX : Cl P w K mg base (L2.CX P w) 12 "node_value" ["thing", "depth", "met"] (spNode C 9)) :
    FnOk P w K mg base (L2.CX P w) 13 f fd ["self", "top"] (spTree K CT C) := by
  refine F.okX scInit (fun vs H Q E h => ?_) (fun cdv A outer s H vs Q E hr h => ?_)
  · obtain ⟨x, dx, v, rfl, _⟩ := h
    rfl
  · obtain ⟨x, dx, v, rfl, hx, h⟩ := h
    rw [bodyInit]
    have hr' : Room 12 (XI P w K mg base f cdv A outer s H E).A := hr
    have hu1 : (XI P w K mg base f cdv A outer s H E).A.units + 1 < cLine := by
      have := hr'.units
      omega
    obtain ⟨tw, hw, rw'⟩ := hWh (P := P) (w := w) (base := base) (f := f) (cdv := cdv) (A := A) (outer := outer) (s := s) (H0 := H) (E := E) B T (hr'.mono (by decide))
    refine ⟨_, pss_cons (ps_if (pt_not (pt_val (pe_callB call_isi (by rfl) B.isin (by decide +kernel) (pa_cons (pv 1) (pa_cons (pe_bltn (v := .ty "dict") (by rfl) B.dict (by decide +kernel) rfl) pa_nil))))) (pss_one (ps_raise rfl (takes_of rfl rfl rfl rfl) (pmk_own PySem.F.excBase_ValueError Nt.x Nt.g Nt.k (raises_own Nt.b Nt.t) (by rfl)))) pss_nil)
      (pss_cons (ps_fld (pv 0) (DcE.pe_dispT hu1 (pe_tup pa_nil) (pe_cl NX hr' (Nat.le_refl _) (by rfl) (passes_call (takes_of rfl rfl rfl rfl) (fun _ _ _ _ h => h)) (pa_cons (pv 1) (pa_cons pe_int (pa_cons (pe_lst pa_nil) pa_nil))))) rfl)
      (pss_cons (ps_set (i := 2) scInit.nd rfl (Or.inl rfl) (pe_lst (pa_cons (pe_tup pa_nil) pa_nil)))
      (pss_one hw))), ?_⟩
    rcases h with ⟨ks, hn, hQ, hE⟩ | ⟨ty, hty, hk, hE⟩
    · obtain ⟨d0, rfl, kv0, hd0⟩ : ∃ d, v = .ref d ∧ ∃ kvd, H d = some (.dK kvd) := by
        cases hn with
        | dir h _ _ _ _ _ => exact ⟨_, rfl, _, h⟩
      refine ⟨_, rfl, _, .ty "dict", _, _, true, rfl, .ty _, .base (.dK hd0), kit_ty (by decide +kernel), _, rfl, iteF ?_⟩
      intro p hp
      refine ⟨by show 0 ≤ sizeLine; decide, fun pt hpt => ?_⟩
      refine ⟨_, rfl, by show 0 ≤ sizeLine; decide, fun pm hpm => ?_⟩
      have s1 : Same H (upd H p (.dT [])) := same_new hp
      have s2 : Same (upd H p (.dT [])) (upd (upd H p (.dT [])) pt (.tup [])) := same_new hpt
      have s3 : Same (upd (upd H p (.dT [])) pt (.tup [])) (upd (upd (upd H p (.dT [])) pt (.tup [])) pm (.lst [])) := same_new hpm
      have hp2 := s2 _ _ (upd_same (H := H) (a := p) (o := .dT []))
      have hp3 := s3 _ _ hp2
      have ht3 := s3 _ _ (upd_same (H := upd H p (.dT [])) (a := pt) (o := .tup []))
      have hm3 : (upd (upd (upd H p (.dT [])) pt (.tup [])) pm (.lst [])) pm = some (.lst []) := upd_same
      obtain ⟨H3, e3⟩ : ∃ H3, H3 = upd (upd (upd H p (.dT [])) pt (.tup [])) pm (.lst []) := ⟨_, rfl⟩
      have s13 : Same H H3 := fun b o h => by
        rw [e3]
        exact s3 _ _ (s2 _ _ (s1 _ _ h))
      rw [← e3] at hp3 ht3 hm3 ⊢
      have pmp : p ≠ pm := ne_of hp3 hm3 (by intro z; cases z)
      have ptm : pt ≠ pm := ne_of ht3 hm3 (by intro z; cases z)
      have pmH : H pm = none := by
        cases e : H pm with
        | none => rfl
        | some o =>
          rw [s2 _ _ (s1 _ _ e)] at hpm
          cases hpm
      refine ⟨_, .dir ks, pm, [], rfl, hn.mono (DKeep.same s13), hm3, by decide, ?_, ?_⟩
      · intro t' n en v' ms' H4 hv' hm' hl' hb
        have kp4 : Same H H4 := fun b o h => hb b o (fun z => by
          rw [z, pmH] at h
          cases h) (s13 _ _ h)
        have hp4 : H4 p = some (.dT []) := hb _ _ pmp hp3
        refine ⟨hp4, pt, [], v', rfl, hb _ _ ptm ht3, ?_⟩
        have px : p ≠ x := (ne_of_none hx hp).symm
        refine ⟨_, rfl, x, CT, dx, [], rfl, by rw [upd_ne px.symm]; exact kp4 _ _ hx, T.cl, T.nN, (by show 0 < 1000; decide), ?_⟩
        obtain ⟨H6, e6⟩ : ∃ H6, H6 = upd (upd H4 p (.dT [([], v')])) x (.ins CT dx (fl p)) := ⟨_, rfl⟩
        have hx6 : H6 x = some (.ins CT dx (fl p)) := by rw [e6]; exact upd_same
        have hp6 : H6 p = some (.dT [([], v')]) := by
          rw [e6, upd_ne px]
          exact upd_same
        have st6 : ∀ b o, H4 b = some o → b ≠ p → b ≠ x → H6 b = some o := fun b o h n1 n2 => by
          rw [e6, upd_ne n2, upd_ne n1]
          exact h
        refine ⟨by show 0 ≤ sizeLine; decide, fun pt2 hpt2 => ⟨by show 1 ≤ sizeLine; decide, fun pL hpL => ?_⟩⟩
        have e6' : upd (upd H4 p (.dT [([], v')])) x (.ins CT dx (putF "nodes" (.ref p) [])) = H6 := e6.symm
        rw [e6'] at hpt2 hpL ⊢
        have s7 : Same H6 (upd H6 pt2 (.tup [])) := same_new hpt2
        have s8 : Same (upd H6 pt2 (.tup [])) (upd (upd H6 pt2 (.tup [])) pL (.lst [.ref pt2])) := same_new hpL
        have ht8 := s8 _ _ (upd_same (H := H6) (a := pt2) (o := .tup []))
        have hL8 : (upd (upd H6 pt2 (.tup [])) pL (.lst [.ref pt2])) pL = some (.lst [.ref pt2]) := upd_same
        have s68 : Same H6 (upd (upd H6 pt2 (.tup [])) pL (.lst [.ref pt2])) := fun b o h => s8 _ _ (s7 _ _ h)
        have pL6 : H6 pL = none := by
          cases e : H6 pL with
          | none => rfl
          | some o =>
            rw [s7 _ _ e] at hpL
            cases hpL
        have pLp : pL ≠ p := fun z => by
          rw [z, hp6] at pL6
          cases pL6
        have pLx : pL ≠ x := fun z => by
          rw [z, hx6] at pL6
          cases pL6
        have pL4 : H4 pL = none := by
          cases e : H4 pL with
          | none => rfl
          | some o =>
            rw [st6 _ _ e pLp pLx] at pL6
            cases pL6
        have pLH : H pL = none := by
          cases e : H pL with
          | none => rfl
          | some o =>
            rw [kp4 _ _ e] at pL4
            cases pL4
        have hsz : sz t' ≤ 61 := by
          have z1 := nv_sz _ _ _ _ _ en
          have z2 := nv_le _ _ _ _ _ en
          have z3 : ([] : List V).length = 0 := rfl
          omega
        have hR : ∀ b o, newIn H H4 b = some o → H b = none := fun b o h => (newIn_some h).1
        have nb : But x H (upd (upd H6 pt2 (.tup [])) pL (.lst [.ref pt2])) := fun b o nb h => s68 _ _ (st6 _ _ (kp4 _ _ h) (ne_of_none h hp) nb)
        refine rw' _ (H := H) (HR := newIn H H4) (x := x) (N := p) (L := pL) (dx := dx) (t := t') (now := []) (M := sz t') (kvs := [([], v')]) (todo := [(pt2, [])]) ⟨⟨_, hx⟩, hp, pLH, hR, ?_, ?_, hsz⟩ hsz ⟨s68 _ _ hx6, s68 _ _ hp6, hL8, ?_, nb⟩ (Fl.start ?_ hsz) ?_ ?_
        · intro kv z
          rw [newIn_of hp, hp4] at z
          cases z
        · intro kv z
          rw [newIn_of pLH, pL4] at z
          cases z
        · intro q0 hq0
          rw [List.mem_singleton] at hq0
          subst hq0
          exact ht8
        · exact hv'.mono (newIn_part (fun b o h => ⟨_, s13 _ _ h⟩) fun _ _ _ e => e)
        · intro b kv hb0
          obtain ⟨z1, z2⟩ := newIn_some hb0
          refine s68 _ _ (st6 _ _ z2 (fun z => ?_) (fun z => ?_))
          · rw [z, hp4] at z2
            cases z2
          · rw [z, hx] at z1
            cases z1
        · intro σ H9 kvs S9 F9 k9
          refine hQ t' n en H9 p kvs S9.ox ?_ (F9.mono fun b kv hb0 => ?_) S9.kp
          · rw [newIn_of hp]
            exact S9.on
          · rw [newIn_of (hR _ _ hb0)]
            exact k9 b kv hb0
      · intro en H4 hb _
        exact hE en H4 fun b o nx h => hb b o (fun z => by
          rw [z, pmH] at h
          cases h) (s13 _ _ h)
    · exact ⟨_, rfl, _, .ty "dict", _, _, false, rfl, .ty _, hty, hk, _, rfl, iteT hE⟩
end
end Tx
set_option Elab.async false
set_option linter.all false
set_option maxRecDepth 100000
set_option maxHeartbeats 8000000
namespace Tx
open PySem PySem.Spec PyProof.Rows L2 Cm
theorem callIsiK {X : Cx} {K : PySem.W.Frag} (h : X.K = K) : CallR X (.builtin "isinstance") (rIsi K) := h ▸ call_isi
abbrev sHeld : Stmt := inClass sTree 2
abbrev sKind : Stmt := inClass sTree 3
abbrev sValue : Stmt := inClass sTree 4
/-- a Tree of the nodes t stands at a -/
structure TrAt (H : Hp) (CT a : Addr) (t : Nd) : Prop where
  ex : ∃ dx N kvs, H a = some (.ins CT dx (fl N)) ∧ H N = some (.dT kvs) ∧ FlatD H t kvs
theorem TrAt.same {H H' : Hp} {CT a : Addr} {t : Nd} (h : TrAt H CT a t) (s : Same H H') : TrAt H' CT a t := by
  obtain ⟨dx, N, kvs, h1, h2, h3⟩ := h.ex
  exact ⟨dx, N, kvs, s _ _ h1, s _ _ h2, h3.mono (DKeep.same s)⟩
/-- what held returns for what stands at the path -/
def HeldV (H : Hp) : Option Nd → V → Prop
  | none, v => v = .non
  | some u, v => NdAt H v u
def spHeld (CT : Addr) : Sp := fun vs H Q _ => ∃ a b t p, vs = [.ref a, .ref b] ∧ TrAt H CT a t ∧ H b = some (.tup (p.map V.str)) ∧ p.length ≤ 900 ∧ ∀ v H', Same H H' → HeldV H (sub t p) v → Q v H'
def kindV : Option Nd → V
  | none => .non
  | some (.dir _) => .str "dir"
  | some (.lnk _) => .str "link"
  | some (.fil _) => .str "file"
def valueV : Option Nd → V
  | none => .non
  | some (.dir _) => .non
  | some (.lnk z) => .str z
  | some (.fil i) => .int i
def spKind (CT : Addr) : Sp := fun vs H Q _ => ∃ a b t p, vs = [.ref a, .ref b] ∧ TrAt H CT a t ∧ H b = some (.tup (p.map V.str)) ∧ p.length ≤ 900 ∧ ∀ H', Same H H' → Q (kindV (sub t p)) H'
def spValue (CT : Addr) : Sp := fun vs H Q _ => ∃ a b t p, vs = [.ref a, .ref b] ∧ TrAt H CT a t ∧ H b = some (.tup (p.map V.str)) ∧ p.length ≤ 900 ∧ ∀ H', Same H H' → Q (valueV (sub t p)) H'
theorem scHeld : FnScope ["self", "node", "name"] ["self", "node"] (defScope sHeld) := ⟨rfl, rfl, rfl, by decide +kernel, rfl, by decide +kernel, by decide +kernel⟩
theorem scKind : FnScope ["self", "node", "held"] ["self", "node"] (defScope sKind) := ⟨rfl, rfl, rfl, by decide +kernel, rfl, by decide +kernel, by decide +kernel⟩
theorem scValue : FnScope ["self", "node", "held"] ["self", "node"] (defScope sValue) := ⟨rfl, rfl, rfl, by decide +kernel, rfl, by decide +kernel, by decide +kernel⟩
section
variable {P : Program} {w : World} {K : PySem.W.Frag} {mg : Str → Option Value} {base : Heap} {f CT : Addr} {fd : FuncData}
theorem ok_held {k : Nat} (F : Fun K "held" "Tree.held" sHeld f fd) (B : Bi mg) (T : Tr K mg CT) : FnOk P w K mg base CX0 (k + 1) f fd ["self", "node"] (spHeld CT) := by
  refine F.ok scHeld (fun vs H Q E h => ?_) (fun cdv A outer s H vs Q E hr h => ?_)
  · obtain ⟨a, b, t, p, rfl, _⟩ := h
    rfl
  · obtain ⟨a, b, t, p, rfl, hT, hb, hl, q⟩ := h
    have hu1 : (A.deeper (envOfC "Tree.held" (defScope sHeld) s.heap.objs.size f cdv)).units + 1 < cLine := by
      have := hr.units
      omega
    refine ⟨_, pss_cons (ps_if (PW.pt (pw_or (pt_not (pt_val (pe_callB call_isi (by rfl) B.isin (by decide +kernel) (pa_cons (pv 1) (pa_cons (pe_bltn (v := .ty "tuple") (by rfl) B.tuple (by decide +kernel) rfl) pa_nil))))) (pw_or1 (pt_not (pt_val (pe_callB (cr_all rfl) (by rfl) B.all (by decide +kernel) (pa_cons (pe_lc (own := [("name", 2)]) (g := gName 2) (tt := tYes) (by rfl) scHeld.nd (pi_tup (pv 1)) (blkOk_by (own := [("name", 2)]) (N := ["self", "node", "name"]) (sc := defScope sHeld) (by decide +kernel)) (fun _ _ _ _ _ => pg_name (i := 2) scHeld.nd rfl (Or.inl rfl)) (fun _ _ _ _ _ => pts_nil)
          (fun _ _ _ _ _ => pe_callB (callIsiK (K := K) rfl) (by rfl) B.isin (by decide +kernel) (pa_cons (pv 2) (pa_cons (pe_bltn (v := .ty "str") (by rfl) B.str (by decide +kernel) rfl) pa_nil)))) pa_nil))))))) (pss_one (ps_ret pe_non)) pss_nil)
      (pss_one (ps_ret (pe_dget1 hu1 (pe_fld (pv 0) rfl) (pv 1) ⟨rfl, rfl, rfl, rfl⟩))), ?_⟩
    refine ⟨_, rfl, _, .ty "tuple", _, _, true, rfl, .ty _, .base (.tup hb), kit_ty (by decide +kernel), _, rfl, iteF ?_⟩
    refine ⟨_, rfl, b, rfl, ⟨_, SqT.of hb⟩, fun D hD => lc_tup (K := K) (a := b) (xs := p.map V.str) (fun i H' => H' D = some (.lst ((List.replicate i true).map V.bl)) ∧ Same H H') ⟨upd_same, same_new hD⟩ (fun i H' _ h => SqT.of (h.2 _ _ hb)) ?_ ?_⟩
    · rintro i x H1 hx ⟨h3, sm⟩
      obtain ⟨z, rfl⟩ : ∃ z, x = V.str z := by
        rw [List.getElem?_map] at hx
        cases e : p[i]? with
        | none =>
          rw [e] at hx
          cases hx
        | some z =>
          rw [e] at hx
          exact ⟨z, (Option.some.inj hx).symm⟩
      have hi : i < (p.map V.str).length := (List.getElem?_eq_some_iff.mp hx).1
      rw [List.length_map] at hi
      refine ⟨rfl, _, rfl, _, .ty "str", _, _, true, rfl, .ty _, .base (.str z), kit_ty (by decide +kernel), ?_⟩
      refine ⟨_, h3, small1000 (by rw [List.length_map, List.length_replicate]; omega), ?_, same_mut hD sm⟩
      rw [upd_same, List.replicate_succ', List.map_append]
      rfl
    · rintro H1 ⟨h3, sm⟩
      refine ⟨D, _, rfl, SqL.of h3, _, rfl, ?_⟩
      have ea : (List.replicate (p.map V.str).length true).all id = true := by
        rw [List.all_eq_true]
        intro x hx
        rw [List.eq_of_mem_replicate hx]
        rfl
      rw [ea]
      refine iteF ?_
      obtain ⟨dx, N, kvs, h1, h2, h4⟩ := hT.ex
      have g1 : DGet H1 N (.ref b) (valV kvs (pk p)) := DGet.t (sm _ _ h2) (by rw [pk_kV]; exact sm _ _ hb)
      refine ⟨_, rfl, a, CT, dx, fl N, .ref N, rfl, sm _ _ h1, T.cl, T.nN, fl_nodes N, N, rfl, .inr ⟨kvs, .inl (sm _ _ h2)⟩, _, rfl, _, g1, q _ _ sm ?_⟩
      cases e : sub t p with
      | none =>
        rw [h4.no e]
        rfl
      | some u =>
        obtain ⟨v, hv, hn⟩ := h4.get e
        rw [hv]
        exact hn
theorem ok_kind {fH : Addr} {fdH : FuncData} {k : Nat} (F : Fun K "kind" "Tree.kind" sKind f fd) (B : Bi mg) (T : Tr K mg CT) (mH : Meth K CT "held" fH) (FH : FnOk P w K mg base CX0 (k + 1) fH fdH ["self", "node"] (spHeld CT)) (bH : Binds K fdH ["self", "node"] []) :
    FnOk P w K mg base CX0 (k + 2) f fd ["self", "node"] (spKind CT) := by
  refine F.ok scKind (fun vs H Q E h => ?_) (fun cdv A outer s H vs Q E hr h => ?_)
  · obtain ⟨a, b, t, p, rfl, _⟩ := h
    rfl
  · obtain ⟨a, b, t, p, rfl, hT, hb, hl, q⟩ := h
    refine ⟨_, pss_cons (ps_set (i := 2) scKind.nd rfl (Or.inl rfl) (pe_meth (pv 0) T.cl mH FH hr bH .nil pass0 (pa_cons (pv 1) pa_nil)))
      (pss_cons (ps_if (pt_cmp (pc_isN (pv 2))) (pss_one (ps_ret pe_non)) pss_nil)
      (pss_cons (ps_if (pt_val (pe_callB call_isi (by rfl) B.isin (by decide +kernel) (pa_cons (pv 2) (pa_cons (pe_bltn (v := .ty "dict") (by rfl) B.dict (by decide +kernel) rfl) pa_nil)))) (pss_one (ps_ret pe_str)) pss_nil)
      (pss_one (ps_ret (pe_ifExp (pt_val (pe_callB call_isi (by rfl) B.isin (by decide +kernel) (pa_cons (pv 2) (pa_cons (pe_bltn (v := .ty "str") (by rfl) B.str (by decide +kernel) rfl) pa_nil)))) pe_str pe_str))))), ?_⟩
    obtain ⟨dx, N, kvs, h1, h2, h4⟩ := hT.ex
    refine ⟨_, rfl, a, dx, fl N, rfl, h1, fl_no N (by decide +kernel), _, rfl, a, b, t, p, rfl, hT, hb, hl, fun v H1 sm hv => ?_⟩
    have qq := q H1 sm
    cases e : sub t p with
    | none =>
      rw [e] at hv qq
      obtain rfl : v = .non := hv
      exact ⟨_, rfl, _, rfl, iteT qq⟩
    | some u =>
      rw [e] at hv qq
      have hv' : NdAt H v u := hv
      cases hv' with
      | fil i =>
        refine ⟨_, rfl, _, rfl, iteF ?_⟩
        refine ⟨_, rfl, _, .ty "dict", _, _, false, rfl, .ty _, .base (.int i), kit_ty (by decide +kernel), _, rfl, iteF ?_⟩
        exact ⟨_, rfl, _, .ty "str", _, _, false, rfl, .ty _, .base (.int i), kit_ty (by decide +kernel), _, rfl, iteF qq⟩
      | lnk z hz =>
        refine ⟨_, rfl, _, rfl, iteF ?_⟩
        refine ⟨_, rfl, _, .ty "dict", _, _, false, rfl, .ty _, .base (.str z), kit_ty (by decide +kernel), _, rfl, iteF ?_⟩
        exact ⟨_, rfl, _, .ty "str", _, _, true, rfl, .ty _, .base (.str z), kit_ty (by decide +kernel), _, rfl, iteT qq⟩
      | dir h _ _ _ _ _ =>
        refine ⟨_, rfl, _, rfl, iteF ?_⟩
        exact ⟨_, rfl, _, .ty "dict", _, _, true, rfl, .ty _, .base (.dK (sm _ _ h)), kit_ty (by decide +kernel), _, rfl, iteT qq⟩
theorem ok_value {fH : Addr} {fdH : FuncData} {k : Nat} (F : Fun K "value" "Tree.value" sValue f fd) (B : Bi mg) (T : Tr K mg CT) (mH : Meth K CT "held" fH) (FH : FnOk P w K mg base CX0 (k + 1) fH fdH ["self", "node"] (spHeld CT)) (bH : Binds K fdH ["self", "node"] []) :
    FnOk P w K mg base CX0 (k + 2) f fd ["self", "node"] (spValue CT) := by
  refine F.ok scValue (fun vs H Q E h => ?_) (fun cdv A outer s H vs Q E hr h => ?_)
  · obtain ⟨a, b, t, p, rfl, _⟩ := h
    rfl
  · obtain ⟨a, b, t, p, rfl, hT, hb, hl, q⟩ := h
    refine ⟨_, pss_cons (ps_set (i := 2) scValue.nd rfl (Or.inl rfl) (pe_meth (pv 0) T.cl mH FH hr bH .nil pass0 (pa_cons (pv 1) pa_nil)))
      (pss_one (ps_ret (pe_ifExp (pt_val (pe_callB call_isi (by rfl) B.isin (by decide +kernel) (pa_cons (pv 2) (pa_cons (pe_bltn (v := .ty "dict") (by rfl) B.dict (by decide +kernel) rfl) pa_nil)))) pe_non (pv 2)))), ?_⟩
    obtain ⟨dx, N, kvs, h1, h2, h4⟩ := hT.ex
    refine ⟨_, rfl, a, dx, fl N, rfl, h1, fl_no N (by decide +kernel), _, rfl, a, b, t, p, rfl, hT, hb, hl, fun v H1 sm hv => ?_⟩
    have qq := q H1 sm
    cases e : sub t p with
    | none =>
      rw [e] at hv qq
      obtain rfl : v = .non := hv
      exact ⟨_, rfl, _, .ty "dict", _, _, false, rfl, .ty _, .base .non, kit_ty (by decide +kernel), _, rfl, iteF ⟨_, rfl, qq⟩⟩
    | some u =>
      rw [e] at hv qq
      have hv' : NdAt H v u := hv
      cases hv' with
      | fil i => exact ⟨_, rfl, _, .ty "dict", _, _, false, rfl, .ty _, .base (.int i), kit_ty (by decide +kernel), _, rfl, iteF ⟨_, rfl, qq⟩⟩
      | lnk z hz => exact ⟨_, rfl, _, .ty "dict", _, _, false, rfl, .ty _, .base (.str z), kit_ty (by decide +kernel), _, rfl, iteF ⟨_, rfl, qq⟩⟩
      | dir h _ _ _ _ _ => exact ⟨_, rfl, _, .ty "dict", _, _, true, rfl, .ty _, .base (.dK (sm _ _ h)), kit_ty (by decide +kernel), _, rfl, iteT qq⟩
end
end Tx
set_option Elab.async false
set_option linter.all false
set_option maxRecDepth 100000
set_option maxHeartbeats 4000000
/-! deeds: is_absolute, is_entry, is_deed -/
namespace Tx
open PySem PySem.Spec PyProof.Rows L2 Cm
/-- t == (), t a tuple -/
theorem op_eqE {X : Cx} (hu : X.A.units < cLine) : OpR X (compareOp .Eq) (fun x y H Q => ∃ a b xs, x = .ref a ∧ y = .ref b ∧ SqT X.K H a xs ∧ SqT X.K H b [] ∧ Q (.bl xs.isEmpty) H) := by
  intro pins s σ H x y v u Q I rx ry h
  obtain ⟨a, b, xs, rfl, rfl, ha, hb, q⟩ := h
  cases rx
  cases ry
  obtain ⟨its, r1, p1, _⟩ := I.tuple ha
  obtain ⟨its2, r2, p2, _⟩ := I.tuple hb
  cases r2
  refine SeqAt.eq_tupleAt (e := fun _ => true) p1 p2 hu (fun j h1 h2 => absurd h2 (by simp)) ⟨.bl _, H, I, rfl, ?_⟩
  cases r1 with
  | nil => exact q
  | cons _ _ => exact q
/-- neither a text nor a number -/
def Oth (H : Hp) (v : V) : Prop := v = .non ∨ ∃ p, v = .ref p ∧ ((∃ xs, H p = some (.lst xs)) ∨ (∃ xs, H p = some (.tup xs)) ∨ ∃ xs, H p = some (.dK xs))
theorem Oth.same {H H' : Hp} {v : V} (h : Oth H v) (s : Same H H') : Oth H' v := by
  rcases h with h | ⟨p, e, ⟨xs, h⟩ | ⟨xs, h⟩ | ⟨xs, h⟩⟩
  · exact .inl h
  · exact .inr ⟨p, e, .inl ⟨xs, s _ _ h⟩⟩
  · exact .inr ⟨p, e, .inr (.inl ⟨xs, s _ _ h⟩)⟩
  · exact .inr ⟨p, e, .inr (.inr ⟨xs, s _ _ h⟩)⟩
theorem Oth.ty {K : PySem.W.Frag} {H : Hp} {v : V} (h : Oth H v) : ∃ n, TyX K H v (.type n) ∧ kitB n "str" = some false ∧ kitB n "int" = some false ∧ kitB n "bool" = some false := by
  rcases h with rfl | ⟨p, rfl, ⟨xs, h⟩ | ⟨xs, h⟩ | ⟨xs, h⟩⟩
  · exact ⟨_, .base .non, by decide +kernel, by decide +kernel, by decide +kernel⟩
  · exact ⟨_, .base (.lst h), by decide +kernel, by decide +kernel, by decide +kernel⟩
  · exact ⟨_, .base (.tup h), by decide +kernel, by decide +kernel, by decide +kernel⟩
  · exact ⟨_, .base (.dK h), by decide +kernel, by decide +kernel, by decide +kernel⟩
/-- an entry of what may be a deed -/
inductive EV where
  | str (z : Str)
  | int (i : Int)
  | bl (b : Bool)
  | oth
deriving DecidableEq
def EvAt (H : Hp) (v : V) : EV → Prop
  | .str z => v = .str z ∧ z.length ≤ 100000
  | .int i => v = .int i
  | .bl b => v = .bl b
  | .oth => Oth H v
theorem EvAt.same {H H' : Hp} {v : V} {e : EV} (h : EvAt H v e) (s : Same H H') : EvAt H' v e := by
  cases e with
  | oth => exact Oth.same h s
  | _ => exact h
def kindsL : List Str := ["sharing", "following", "alone", "unbindable"]
def entryB (e : EV) (sort : Str) : Bool :=
  if sort = "path" then (match e with | .str z => pathB z && Txt.startswith z "/" | _ => false)
  else if sort = "space" then (match e with | .int _ => true | _ => false)
  else if sort = "kind" then (match e with | .str z => inV (.str z) (kindsL.map V.str) | _ => false)
  else if sort = "bool" then (match e with | .bl _ => true | _ => false)
  else true
def spAbs : Sp := fun vs H Q _ => ∃ z, vs = [.str z] ∧ Q (.bl (Txt.startswith z "/")) H
def spEntry : Sp := fun vs H Q _ => ∃ x e sort, vs = [x, .str sort] ∧ EvAt H x e ∧ ∀ H', Same H H' → Q (.bl (entryB e sort)) H'
theorem scAbs : FnScope ["path"] ["path"] (defScope sAbs) := ⟨rfl, rfl, rfl, by decide +kernel, rfl, by decide +kernel, by decide +kernel⟩
theorem scEntry : FnScope ["thing", "sort"] ["thing", "sort"] (defScope sEntry) := ⟨rfl, rfl, rfl, by decide +kernel, rfl, by decide +kernel, by decide +kernel⟩
theorem scIsDeed : FnScope ["thing", "form", "entry", "sort"] ["thing"] (defScope sIsDeed) := ⟨rfl, rfl, rfl, by decide +kernel, rfl, by decide +kernel, by decide +kernel⟩
section
variable {P : Program} {w : World} {K : PySem.W.Frag} {mg : Str → Option Value} {base : Heap}
theorem ok_abs {f : Addr} {fd : FuncData} {k : Nat} (F : Fun K "is_absolute" "is_absolute" sAbs f fd) : FnOk P w K mg base CX0 (k + 1) f fd ["path"] spAbs := by
  refine F.ok scAbs (fun vs H Q E h => ?_) (fun cdv A outer s H vs Q E hr h => ?_)
  · obtain ⟨z, rfl, _⟩ := h
    rfl
  · obtain ⟨z, rfl, q⟩ := h
    refine ⟨_, pss_one (ps_ret (pe_bm PySem.F.plainAttrs_str PySem.F.slot_str_startswith PySem.F.type_str_startswith mt_startswith (pv 0) (pa_cons pe_str pa_nil))), ?_⟩
    exact ⟨_, rfl, rfl, z, _, rfl, rfl, q⟩
/-- the tuple KINDS -/
def Kn (K : PySem.W.Frag) (mg : Str → Option Value) : Prop := ∃ a, mg "KINDS" = some (.ref a) ∧ ∀ H, SqT K H a (kindsL.map V.str)
theorem ok_entry {f : Addr} {fd : FuncData} {k : Nat} (F : Fun K "is_entry" "is_entry" sEntry f fd) (B : Bi mg) (Kd : Kn K mg) (Pt : Cl P w K mg base CX0 2 "is_path" ["thing"] (spPath K)) (Ab : Cl P w K mg base CX0 1 "is_absolute" ["path"] spAbs) : FnOk P w K mg base CX0 (k + 3) f fd ["thing", "sort"] spEntry := by
  obtain ⟨aK, mK, hK⟩ := Kd
  refine F.ok scEntry (fun vs H Q E h => ?_) (fun cdv A outer s H vs Q E hr h => ?_)
  · obtain ⟨x, e, sort, rfl, _⟩ := h
    rfl
  · obtain ⟨x, e, sort, rfl, he, q⟩ := h
    have sN : Same H H := Same.refl H
    refine ⟨_, pss_cons (ps_if (pt_cmpR op_eq (pv 1) pe_str (nomark _)) (pss_one (ps_ret (pe_and (pe_cl Pt hr (by omega) (by rfl) pass0 (pa_cons (pv 0) pa_nil)) (pe_one (pe_cl Ab hr (by omega) (by rfl) pass0 (pa_cons (pv 0) pa_nil)))))) pss_nil)
      (pss_cons (ps_if (pt_cmpR op_eq (pv 1) pe_str (nomark _)) (pss_one (ps_ret (pe_and (pe_callB call_isi (by rfl) B.isin (by decide +kernel) (pa_cons (pv 0) (pa_cons (pe_bltn (v := .ty "int") (by rfl) B.int (by decide +kernel) rfl) pa_nil))) (pe_one (pe_not (pe_callB call_isi (by rfl) B.isin (by decide +kernel) (pa_cons (pv 0) (pa_cons (pe_bltn (v := .ty "bool") (by rfl) B.bool (by decide +kernel) rfl) pa_nil)))))))) pss_nil)
      (pss_cons (ps_if (pt_cmpR op_eq (pv 1) pe_str (nomark _)) (pss_one (ps_ret (pe_and (pe_callB call_isi (by rfl) B.isin (by decide +kernel) (pa_cons (pv 0) (pa_cons (pe_bltn (v := .ty "str") (by rfl) B.str (by decide +kernel) rfl) pa_nil))) (pe_one (pe_cmpR op_in_seq (pv 0) (pe_glob (v := .ref aK) (by rfl) mK rfl) (by rfl)))))) pss_nil)
      (pss_cons (ps_if (pt_cmpR op_eq (pv 1) pe_str (nomark _)) (pss_one (ps_ret (pe_callB call_isi (by rfl) B.isin (by decide +kernel) (pa_cons (pv 0) (pa_cons (pe_bltn (v := .ty "bool") (by rfl) B.bool (by decide +kernel) rfl) pa_nil))))) pss_nil)
      (pss_one (ps_ret pe_bl))))), ?_⟩
    have dc : ∀ {a b : Str}, a ≠ b → decide (V.str a = V.str b) = false := fun {a b} n => decide_eq_false fun h => n (V.str.inj h)
    refine ⟨_, rfl, rfl, _, rfl, ?_⟩
    by_cases e1 : sort = "path"
    · subst e1
      refine iteT ?_
      have tn : ∃ b, Tn K H pathB x b ∧ (match e with | .str z => b = pathB z | _ => b = false) := by
        cases e with
        | str z => exact ⟨_, by rw [he.1]; exact .str z he.2, rfl⟩
        | int i => exact ⟨_, by rw [show x = .int i from he]; exact .other (.base (.int i)) (by decide +kernel), rfl⟩
        | bl b => exact ⟨_, by rw [show x = .bl b from he]; exact .other (.base (.bl b)) (by decide +kernel), rfl⟩
        | oth =>
          obtain ⟨n, ty, hs, _, _⟩ := Oth.ty (K := K) he
          exact ⟨_, .other ty hs, rfl⟩
      obtain ⟨b, tn, hb⟩ := tn
      refine ⟨_, rfl, _, _, rfl, tn, fun H1 s1 => ⟨b, rfl, ite2 (fun hb1 => ?_) (fun hb1 => ?_)⟩⟩
      · cases e with
        | str z =>
          refine ⟨_, rfl, z, by rw [he.1]; rfl, ?_⟩
          have := q H1 s1
          unfold entryB at this
          rw [if_pos rfl] at this
          dsimp only at this hb
          rw [← hb, hb1, Bool.true_and] at this
          exact this
        | _ =>
          dsimp only at hb
          rw [hb] at hb1
          cases hb1
      · have := q H1 s1
        unfold entryB at this
        rw [if_pos rfl] at this
        cases e with
        | str z =>
          dsimp only at this hb
          rw [← hb, show b = false by simpa using hb1, Bool.false_and] at this
          exact this
        | _ => exact this
    rw [dc e1]
    refine iteF ⟨_, rfl, rfl, _, rfl, ?_⟩
    by_cases e2 : sort = "space"
    · subst e2
      refine iteT ?_
      have q' := q H sN
      unfold entryB at q'
      rw [if_neg e1, if_pos rfl] at q'
      cases e with
      | int i =>
        cases (show x = .int i from he)
        exact ⟨_, rfl, _, .ty "int", _, _, true, rfl, .ty _, .base (.int i), kit_ty (by decide +kernel), _, rfl, iteT ⟨_, rfl, _, .ty "bool", _, _, false, rfl, .ty _, .base (.int i), kit_ty (by decide +kernel), _, rfl, q'⟩⟩
      | bl b =>
        cases (show x = .bl b from he)
        exact ⟨_, rfl, _, .ty "int", _, _, true, rfl, .ty _, .base (.bl b), kit_ty (by decide +kernel), _, rfl, iteT ⟨_, rfl, _, .ty "bool", _, _, true, rfl, .ty _, .base (.bl b), kit_ty (by decide +kernel), _, rfl, q'⟩⟩
      | str z =>
        cases (show x = .str z from he.1)
        exact ⟨_, rfl, _, .ty "int", _, _, false, rfl, .ty _, .base (.str z), kit_ty (by decide +kernel), _, rfl, iteF q'⟩
      | oth =>
        obtain ⟨n, ty, _, hi, _⟩ := Oth.ty (K := K) he
        exact ⟨_, rfl, _, .ty "int", _, _, false, rfl, .ty _, ty, kit_ty hi, _, rfl, iteF q'⟩
    rw [dc e2]
    refine iteF ⟨_, rfl, rfl, _, rfl, ?_⟩
    by_cases e3 : sort = "kind"
    · subst e3
      refine iteT ?_
      have q' := q H sN
      unfold entryB at q'
      rw [if_neg e1, if_neg e2, if_pos rfl] at q'
      cases e with
      | str z =>
        cases (show x = .str z from he.1)
        exact ⟨_, rfl, _, .ty "str", _, _, true, rfl, .ty _, .base (.str z), kit_ty (by decide +kernel), _, rfl, iteT ⟨_, rfl, aK, _, rfl, .inr (hK _), rfl, rfl, q'⟩⟩
      | int i =>
        cases (show x = .int i from he)
        exact ⟨_, rfl, _, .ty "str", _, _, false, rfl, .ty _, .base (.int i), kit_ty (by decide +kernel), _, rfl, iteF q'⟩
      | bl b =>
        cases (show x = .bl b from he)
        exact ⟨_, rfl, _, .ty "str", _, _, false, rfl, .ty _, .base (.bl b), kit_ty (by decide +kernel), _, rfl, iteF q'⟩
      | oth =>
        obtain ⟨n, ty, hs, _, _⟩ := Oth.ty (K := K) he
        exact ⟨_, rfl, _, .ty "str", _, _, false, rfl, .ty _, ty, kit_ty hs, _, rfl, iteF q'⟩
    rw [dc e3]
    refine iteF ⟨_, rfl, rfl, _, rfl, ?_⟩
    by_cases e4 : sort = "bool"
    · subst e4
      refine iteT ?_
      have q' := q H sN
      unfold entryB at q'
      rw [if_neg e1, if_neg e2, if_neg e3, if_pos rfl] at q'
      cases e with
      | str z =>
        cases (show x = .str z from he.1)
        exact ⟨_, rfl, _, .ty "bool", _, _, false, rfl, .ty _, .base (.str z), kit_ty (by decide +kernel), q'⟩
      | int i =>
        cases (show x = .int i from he)
        exact ⟨_, rfl, _, .ty "bool", _, _, false, rfl, .ty _, .base (.int i), kit_ty (by decide +kernel), q'⟩
      | bl b =>
        cases (show x = .bl b from he)
        exact ⟨_, rfl, _, .ty "bool", _, _, true, rfl, .ty _, .base (.bl b), kit_ty (by decide +kernel), q'⟩
      | oth =>
        obtain ⟨n, ty, _, _, hb⟩ := Oth.ty (K := K) he
        exact ⟨_, rfl, _, .ty "bool", _, _, false, rfl, .ty _, ty, kit_ty hb, q'⟩
    rw [dc e4]
    refine iteF ?_
    have q' := q H sN
    unfold entryB at q'
    rw [if_neg e1, if_neg e2, if_neg e3, if_neg e4] at q'
    exact q'
/-! ### is_deed -/
def formsL : List (Str × List Str) := [("mount", ["space", "tree", "path"]), ("bind", ["space", "path", "path"]), ("bind all", ["space", "path", "path"]), ("move", ["space", "path", "path"]), ("unmount", ["space", "path"]), ("unmount all", ["space", "path"]), ("make", ["space", "path", "kind"]), ("make all", ["space", "path", "kind"]), ("clone", ["space", "bool"])]
/-- words that are none -/
def noWords : List Str := ["Mount", "mounts", "binds", "bind alls", "moves", "unmounts", "unmount alls", "makes", "make alls", "clones"]
/-- the dict FORMS -/
structure Fm (K : PySem.W.Frag) (w : World) (mg : Str → Option Value) : Prop where
  ex : ∃ aF es n, mg "FORMS" = some (.ref aF) ∧ KDict K w aF es n ∧ (∀ p ∈ formsL, ∃ t, PySem.W.nsIn K aF p.1 = some (some (.ref t)) ∧ ∀ H, SqT K H t (p.2.map V.str)) ∧ ∀ z ∈ noWords, PySem.W.nsIn K aF z = some none
/-- a value that may be a deed -/
inductive TV where
  | tup (es : List EV)
  | no
def TvAt (H : Hp) (v : V) : TV → Prop
  | .tup es => ∃ a xs, v = .ref a ∧ H a = some (.tup xs) ∧ Paired (EvAt H) xs es ∧ es.length ≤ 900 ∧ (∀ z, es.head? = some (.str z) → z ∈ formsL.map (·.1) ∨ z ∈ noWords)
  | .no => v = .non ∨ (∃ z, v = .str z) ∨ ∃ p, v = .ref p ∧ ((∃ xs, H p = some (.lst xs)) ∨ ∃ xs, H p = some (.dK xs))
theorem pdE {H H' : Hp} (s : Same H H') : ∀ {xs : List V} {es : List EV}, Paired (EvAt H) xs es → Paired (EvAt H') xs es
  | _, _, .nil => .nil
  | _, _, .cons a r => .cons (a.same s) (pdE s r)
theorem TvAt.same {H H' : Hp} {v : V} {t : TV} (h : TvAt H v t) (s : Same H H') : TvAt H' v t := by
  cases t with
  | tup es =>
    obtain ⟨a, xs, e, ha, p, l, k⟩ := h
    exact ⟨a, xs, e, s _ _ ha, pdE s p, l, k⟩
  | no =>
    rcases h with h | h | ⟨p, e, ⟨xs, h⟩ | ⟨xs, h⟩⟩
    · exact .inl h
    · exact .inr (.inl h)
    · exact .inr (.inr ⟨p, e, .inl ⟨xs, s _ _ h⟩⟩)
    · exact .inr (.inr ⟨p, e, .inr ⟨xs, s _ _ h⟩⟩)
def formOf (z : Str) : Option (List Str) := (formsL.find? fun p => p.1 == z).map (·.2)
def deedB : TV → Bool
  | .no => false
  | .tup [] => false
  | .tup (.str z :: es) => match formOf z with
    | none => false
    | some fm => if (es.length = fm.length) then ((es.zip fm).map fun p => entryB p.1 p.2).all id else false
  | .tup (_ :: _) => false
def spIsDeed : Sp := fun vs H Q _ => ∃ x t, vs = [x] ∧ TvAt H x t ∧ ∀ H', Same H H' → Q (.bl (deedB t)) H'
theorem walk_zipT {K : PySem.W.Frag} {a b : Addr} {xs ys : List V} {n : Nat} (hn : n = min xs.length ys.length) : Walk (RZ.ItzT K a b) n (fun H => SqT K H a xs ∧ SqT K H b ys) (fun i H v H' => ∃ T x y, v = .ref T ∧ H T = none ∧ H' = upd H T (.tup [x, y]) ∧ xs[i]? = some x ∧ ys[i]? = some y) := by
  refine ⟨fun i H hi g => ⟨xs, ys, xs[i]'(by omega), ys[i]'(by omega), g.1, g.2, List.getElem?_eq_getElem _, List.getElem?_eq_getElem _⟩, fun H g => ⟨xs, ys, g.1, g.2, by omega⟩, ?_⟩
  rintro i H x H' hi g ⟨T, y, z, e, h1, h2, h3, h4⟩
  exact ⟨T, y, z, e, h1, h2, h3 _ g.1, h4 _ g.2⟩
theorem deedB_str (z : Str) (es : List EV) : deedB (.tup (.str z :: es)) = (match formOf z with
    | none => false
    | some fm => if (es.length = fm.length) then ((es.zip fm).map fun p => entryB p.1 p.2).all id else false) := rfl
theorem sIx1 (n d : Nat) : HT.sIx (n + 1) d (some 1) = 1 := (HT.sIx_nat (n + 1) d 1).trans (by omega)
theorem cut_tail {x : V} {xs : List V} : cutV (x :: xs) (some 1) none = xs := by
  unfold cutV
  rw [List.length_cons, sIx1, HT.sIx_none]
  exact List.take_of_length_le (by simp)
theorem form_yes {z : Str} (h : z ∈ formsL.map (·.1)) : ∃ p ∈ formsL, p.1 = z ∧ formOf z = some p.2 ∧ p.2.length ≤ 3 := by
  simp only [formsL, List.map_cons, List.map_nil, List.mem_cons, List.not_mem_nil, or_false] at h
  rcases h with rfl | rfl | rfl | rfl | rfl | rfl | rfl | rfl | rfl
  · exact ⟨("mount", ["space", "tree", "path"]), by decide +kernel, rfl, by decide +kernel, by decide⟩
  · exact ⟨("bind", ["space", "path", "path"]), by decide +kernel, rfl, by decide +kernel, by decide⟩
  · exact ⟨("bind all", ["space", "path", "path"]), by decide +kernel, rfl, by decide +kernel, by decide⟩
  · exact ⟨("move", ["space", "path", "path"]), by decide +kernel, rfl, by decide +kernel, by decide⟩
  · exact ⟨("unmount", ["space", "path"]), by decide +kernel, rfl, by decide +kernel, by decide⟩
  · exact ⟨("unmount all", ["space", "path"]), by decide +kernel, rfl, by decide +kernel, by decide⟩
  · exact ⟨("make", ["space", "path", "kind"]), by decide +kernel, rfl, by decide +kernel, by decide⟩
  · exact ⟨("make all", ["space", "path", "kind"]), by decide +kernel, rfl, by decide +kernel, by decide⟩
  · exact ⟨("clone", ["space", "bool"]), by decide +kernel, rfl, by decide +kernel, by decide⟩
theorem form_no {z : Str} (h : z ∈ noWords) : formOf z = none := by
  simp only [noWords, List.mem_cons, List.not_mem_nil, or_false] at h
  rcases h with rfl | rfl | rfl | rfl | rfl | rfl | rfl | rfl | rfl | rfl <;> decide +kernel
theorem pd_at {α : Type} {F : V → α → Prop} {xs : List V} {ws : List α} (p : Paired F xs ws) : ∀ {i : Nat} {x : V}, xs[i]? = some x → ∃ w, ws[i]? = some w ∧ F x w := by
  induction p with
  | nil =>
    intro i x e
    cases e
  | cons a r ih =>
    intro i x e
    match i, e with
    | 0, e =>
      cases e
      exact ⟨_, rfl, a⟩
    | i + 1, e => exact ih e
theorem ok_isdeed {f : Addr} {fd : FuncData} {k : Nat} (F : Fun K "is_deed" "is_deed" sIsDeed f fd) (B : Bi mg) (hz : mg "zip" = none) (Fo : Fm K w mg) (En : Cl P w K mg base CX0 3 "is_entry" ["thing", "sort"] spEntry) : FnOk P w K mg base CX0 (k + 4) f fd ["thing"] spIsDeed := by
  obtain ⟨aF, es0, n0, mF, KD, fy, fn⟩ := Fo.ex
  refine F.ok scIsDeed (fun vs H Q E h => ?_) (fun cdv A outer s H vs Q E hr h => ?_)
  · obtain ⟨x, t, rfl, _⟩ := h
    rfl
  · obtain ⟨x, t, rfl, ht, q⟩ := h
    have hu : (cxOf CX0 P w K mg base ["thing", "form", "entry", "sort"] "is_deed" (defScope sIsDeed) f cdv A outer s H E).nox.A.units < cLine := Nat.lt_of_le_of_lt (Nat.le_add_right _ 64) hr.units
    refine ⟨_, pss_cons (ps_if (PW.pt (pw_or (pt_not (pt_val (pe_callB call_isi (by rfl) B.isin (by decide +kernel) (pa_cons (pv 0) (pa_cons (pe_bltn (v := .ty "tuple") (by rfl) B.tuple (by decide +kernel) rfl) pa_nil)))))
        (pw_or (pt_cmpR (op_eqE hu) (pv 0) (pe_tup pa_nil) (nomark _))
        (pw_or (pt_not (pt_val (pe_callB call_isi (by rfl) B.isin (by decide +kernel) (pa_cons (pe_ix ix_tup (pv 0) pe_int (fun _ _ => rfl)) (pa_cons (pe_bltn (v := .ty "str") (by rfl) B.str (by decide +kernel) rfl) pa_nil)))))
        (pw_or1 (pt_cmpR (op_notIn_kd KD) (pe_ix ix_tup (pv 0) pe_int (fun _ _ => rfl)) (pe_glob (v := .ref aF) (by rfl) mF rfl) (by rfl))))))) (pss_one (ps_ret pe_bl)) pss_nil)
      (pss_cons (ps_set (i := 1) scIsDeed.nd rfl (.inl rfl) (pe_ix ix_kdict (pe_glob (v := .ref aF) (by rfl) mF rfl) (pe_ix ix_tup (pv 0) pe_int (fun _ _ => rfl)) (fun _ _ => rfl)))
      (pss_cons (ps_if (pt_cmpR op_ne (pe_callB call_len_seq (by rfl) B.len PySem.boot_len (pa_cons (pv 0) pa_nil)) (pe_op op_add (pe_callB call_len_seq (by rfl) B.len PySem.boot_len (pa_cons (pv 1) pa_nil)) pe_int) (nomark _)) (pss_one (ps_ret pe_bl)) pss_nil)
      (pss_one (ps_ret (pe_callB (cr_all rfl) (by rfl) B.all (by decide +kernel) (pa_cons (pe_lc (own := [("entry", 2), ("sort", 3)]) (g := gTup K 2 (gCons (gName 2) (gCons (gName 3) gNil))) (tt := tYes) (by rfl) scIsDeed.nd (RZ.pi_zipA (by rfl) hz (pa_cons (pe_slice sl_tup (pv 0) (po_some pe_int) po_none) (pa_cons (pv 1) pa_nil))) (blkOk_by (own := [("entry", 2), ("sort", 3)]) (N := ["thing", "form", "entry", "sort"]) (sc := defScope sIsDeed) (by decide +kernel))
          (fun _ _ _ _ _ => pg_tup rfl (pgs_cons (pg_name (i := 2) scIsDeed.nd rfl (Or.inl rfl)) (pgs_cons (pg_name (i := 3) scIsDeed.nd rfl (Or.inl rfl)) pgs_nil))) (fun _ _ _ _ _ => pts_nil)
          (fun _ _ _ _ _ => pe_cl En hr (by omega) (by rfl) pass0 (pa_cons (pv 2) (pa_cons (pv 3) pa_nil)))) pa_nil)))))), ?_⟩
    have sN : Same H H := Same.refl H
    cases t with
    | no =>
      have q' := q H sN
      rcases ht with rfl | ⟨z, rfl⟩ | ⟨p, rfl, ⟨xs, h⟩ | ⟨xs, h⟩⟩
      · exact ⟨_, rfl, _, .ty "tuple", _, _, false, rfl, .ty _, .base .non, kit_ty (by decide +kernel), _, rfl, iteT (iteT q')⟩
      · exact ⟨_, rfl, _, .ty "tuple", _, _, false, rfl, .ty _, .base (.str z), kit_ty (by decide +kernel), _, rfl, iteT (iteT q')⟩
      · exact ⟨_, rfl, _, .ty "tuple", _, _, false, rfl, .ty _, .base (.lst h), kit_ty (by decide +kernel), _, rfl, iteT (iteT q')⟩
      · exact ⟨_, rfl, _, .ty "tuple", _, _, false, rfl, .ty _, .base (.dK h), kit_ty (by decide +kernel), _, rfl, iteT (iteT q')⟩
    | tup es =>
      obtain ⟨a, xs, rfl, ha, pd, hl, hw⟩ := ht
      refine ⟨_, rfl, _, .ty "tuple", _, _, true, rfl, .ty _, .base (.tup ha), kit_ty (by decide +kernel), _, rfl, iteF ?_⟩
      refine ⟨_, rfl, (by show 0 ≤ sizeLine; decide), fun p0 hp0 => ?_⟩
      have s0 := same_new (o := HO.tup []) hp0
      have ha0 := s0 _ _ ha
      refine ⟨a, p0, xs, rfl, rfl, SqT.of ha0, SqT.of upd_same, _, rfl, ?_⟩
      cases pd with
      | nil => exact iteT (iteT (q _ s0))
      | @cons x0 e0 xr er h0 hr0 =>
        refine iteF ?_
        have h00 := h0.same s0
        refine ⟨_, rfl, a, _, 0, x0, rfl, rfl, SqT.of ha0, atI_nat (j := 0) rfl, ?_⟩
        cases e0 with
        | int i =>
          cases (show x0 = .int i from h0)
          exact ⟨_, .ty "str", _, _, false, rfl, .ty _, .base (.int i), kit_ty (by decide +kernel), _, rfl, iteT (iteT (q _ s0))⟩
        | bl b =>
          cases (show x0 = .bl b from h0)
          exact ⟨_, .ty "str", _, _, false, rfl, .ty _, .base (.bl b), kit_ty (by decide +kernel), _, rfl, iteT (iteT (q _ s0))⟩
        | oth =>
          obtain ⟨n, ty, hs, _, _⟩ := Oth.ty (K := K) h00
          exact ⟨_, .ty "str", _, _, false, rfl, .ty _, ty, kit_ty hs, _, rfl, iteT (iteT (q _ s0))⟩
        | str z =>
          cases (show x0 = .str z from h0.1)
          refine ⟨_, .ty "str", _, _, true, rfl, .ty _, .base (.str z), kit_ty (by decide +kernel), _, rfl, iteF ?_⟩
          refine ⟨_, rfl, a, _, 0, .str z, rfl, rfl, SqT.of ha0, atI_nat (j := 0) rfl, ?_⟩
          rcases hw z rfl with hz' | hz'
          · obtain ⟨p, hp, rfl, hf, hp3⟩ := form_yes hz'
            obtain ⟨t, ht, hS⟩ := fy p hp
            refine ⟨_, _, rfl, rfl, ht, _, rfl, iteF ?_⟩
            refine ⟨_, rfl, a, _, 0, .str p.1, rfl, rfl, SqT.of ha0, atI_nat (j := 0) rfl, aF, p.1, .ref t, rfl, rfl, ⟨_, _, _, KD.at_, KD.lit, ht, rfl⟩, ?_⟩
            refine ⟨_, rfl, a, _, rfl, .inr (SqT.of ha0), _, rfl, t, _, rfl, .inr (hS _), _, _, rfl, rfl, rfl, _, rfl, ?_⟩
            have lx := Paired.length hr0
            have lf : (p.2.map V.str).length = p.2.length := List.length_map _
            rw [deedB_str, hf] at q
            dsimp only at q
            by_cases hle : er.length = p.2.length
            · rw [if_pos hle] at q
              rw [decide_eq_true (show V.int ((V.str p.1 :: xr).length : Nat) = V.int (((p.2.map V.str).length : Nat) + 1) by rw [lf, List.length_cons, lx, hle]; rfl)]
              refine iteF ?_
              refine ⟨_, rfl, 1, rfl, a, _, rfl, SqT.of ha0, fun z => ?_, fun p1 hp1 => ?_⟩
              · have z1 := z.1
                have e : HT.sIx (V.str p.1 :: xr).length 0 (some 1) = 1 := sIx1 _ _
                rw [e] at z1
                cases z1
              · rw [cut_tail]
                have s1 := same_new (o := HO.tup xr) hp1
                have hE := pdE (s0.trans s1) hr0
                refine ⟨_, rfl, p1, t, xr, _, rfl, .inr ⟨SqT.of upd_same, hS _, fun D hD => lc_it (walk_zipT (K := K) rfl) (fun i H' => H' D = some (.lst ((((er.zip p.2).map fun p => entryB p.1 p.2).take i).map V.bl)) ∧ Same (upd (upd H p0 (.tup [])) p1 (.tup xr)) H') ⟨upd_same, same_new hD⟩ (fun i H' _ h => ⟨SqT.of (h.2 _ _ upd_same), hS _⟩) ?_ ?_⟩⟩
                · rintro i x H1 H2 hi ⟨h3, sm⟩ ⟨T, xx, yy, rfl, hT, rfl, hx, hy⟩
                  obtain ⟨ee, hee, hev⟩ := pd_at hE hx
                  rw [List.getElem?_map] at hy
                  cases es1 : p.2[i]? with
                  | none =>
                    rw [es1] at hy
                    cases hy
                  | some so =>
                    rw [es1] at hy
                    cases hy
                    have sT := same_new (o := HO.tup [xx, .str so]) hT
                    refine ⟨T, _, rfl, SqT.of upd_same, rfl, _, _, rfl, _, _, rfl, rfl, rfl, _, rfl, _, rfl, xx, ee, so, rfl, hev.same (sm.trans sT), fun H3 s3 => ?_⟩
                    refine ⟨_, s3 _ _ (sT _ _ h3), small1000 ?_, ?_, same_mut hD ((sm.trans sT).trans s3)⟩
                    · rw [List.length_map, List.length_take, List.length_map, List.length_zip]
                      omega
                    · have ez : ((er.zip p.2).map fun p => entryB p.1 p.2)[i]? = some (entryB ee so) := by
                        rw [List.getElem?_map, List.getElem?_zip_eq_some (z := (ee, so)).mpr ⟨hee, es1⟩]
                        rfl
                      rw [upd_same, take_snoc ez, List.map_append]
                      rfl
                · rintro H1 ⟨h3, sm⟩
                  have e : ((er.zip p.2).map fun p => entryB p.1 p.2).take (min xr.length (p.2.map V.str).length) = (er.zip p.2).map fun p => entryB p.1 p.2 := List.take_of_length_le (by rw [List.length_map, List.length_zip, lf, lx]; exact Nat.le_refl _)
                  rw [e] at h3
                  exact ⟨D, _, rfl, SqL.of h3, q H1 ((s0.trans s1).trans sm)⟩
            · rw [if_neg hle] at q
              rw [decide_eq_false (show ¬ V.int ((V.str p.1 :: xr).length : Nat) = V.int (((p.2.map V.str).length : Nat) + 1) from fun z => hle (by
                have z' := V.int.inj z
                rw [lf, List.length_cons, lx] at z'
                omega))]
              exact iteT (q _ s0)
          · refine ⟨_, _, rfl, rfl, fn z hz', _, rfl, iteT ?_⟩
            have := q _ s0
            rw [deedB_str, form_no hz'] at this
            exact this
end
end Tx
set_option Elab.async false
set_option linter.all false
set_option maxRecDepth 100000
set_option maxHeartbeats 4000000
/-! own objects: fields set one by one -/
namespace Ob
open PySem PySem.Spec PyProof.Rows L2 Cm
/-- statements by what holds ahead and behind -/
def HoS (X : Cx) (sts : List Stmt) (p q : L2.St → Hp → Prop) : Prop := ∃ t, PSs X sts t ∧ ∀ (D : Ends) σ H, p σ H → (∀ σ' H', q σ' H' → D.nx σ' H') → t D σ H
theorem HoS.nil {X : Cx} {p : L2.St → Hp → Prop} : HoS X [] p p := ⟨_, pss_nil, fun D σ H h q => q _ _ h⟩
theorem HoS.cons {X : Cx} {st : Stmt} {rest : List Stmt} {p q r : L2.St → Hp → Prop} (a : Ho X st p q) (b : HoS X rest q r) : HoS X (st :: rest) p r := by
  obtain ⟨t, ht, h1⟩ := a
  obtain ⟨u, hu, h2⟩ := b
  exact ⟨_, pss_cons ht hu, fun D σ H hp hr => h1 _ σ H hp fun σ' H' hq => h2 D σ' H' hq hr⟩
theorem HoS.conseq {X : Cx} {sts : List Stmt} {p p' q q' : L2.St → Hp → Prop} (h : HoS X sts p q) (i : ∀ σ H, p' σ H → p σ H) (j : ∀ σ H, q σ H → q' σ H) : HoS X sts p' q' := by
  obtain ⟨t, a, b⟩ := h
  exact ⟨t, a, fun D σ H z k => b D σ H (i _ _ z) fun σ' H' y => k _ _ (j _ _ y)⟩
/-- the object x, its fields so far; all else as at the start -/
def Fd (σ0 : L2.St) (H0 : Hp) (x C dx : Addr) (fs : List (Str × V)) (n : Nat) : L2.St → Hp → Prop := fun σ H => σ = σ0 ∧ But x H0 H ∧ H x = some (.ins C dx fs) ∧ fs.length ≤ n
theorem putF_len (f : Str) (v : V) : ∀ fs : List (Str × V), (putF f v fs).length ≤ fs.length + 1
  | [] => Nat.le_refl _
  | (g, x) :: r => by
    unfold putF
    split
    · simp
    · have := putF_len f v r
      simp only [List.length_cons]
      omega
section
variable {X : Cx} {σ0 : L2.St} {H0 : Hp} {x C dx : Addr} {fs : List (Str × V)} {f y : Str} {i : Nat} {e : Expr} {te : TE} {v : V} {p p' pos : Pos}
/-- self.f = e, e a value that is there -/
theorem ho_fld (hs : PE X (.Name y p) (tVar i)) (hi : σ0[i]? = some (some (.ref x))) (he : PE X e te) (hv : ∀ H (Q : VK), Q v H → te σ0 H Q) (cl : Cls X.K C) (no : NoAttr X.K C f) {n : Nat} (hl : n ≤ 100)
    (sw : swapsWith e (some (.Attribute (.Name y p) f p')) pos.line X.env = pure false) : Ho X (.Assign [.Attribute (.Name y p) f p'] e pos) (Fd σ0 H0 x C dx fs n) (Fd σ0 H0 x C dx (putF f v fs) (n + 1)) := by
  refine ⟨_, ps_fld hs he sw, ?_⟩
  rintro D σ H ⟨rfl, b, hx, hn⟩ q
  refine hv H _ ⟨_, hi, x, C, dx, fs, rfl, hx, cl, no, ?_, q _ _ ⟨rfl, b.trans But.upd, upd_same, Nat.le_trans (putF_len f v fs) (by omega)⟩⟩
  omega
end
end Ob
namespace Tx
open PySem PySem.Spec PyProof.Rows L2 Cm Ob
/-! ### Mount.__init__ -/
abbrev sMtI : Stmt := inClass sMountC 0
theorem scMtI : FnScope ["self", "number", "space", "tree", "root"] ["self", "number", "space", "tree", "root"] (defScope sMtI) := ⟨rfl, rfl, rfl, by decide +kernel, rfl, by decide +kernel, by decide +kernel⟩
/-- a class without those names -/
structure Cn (K : PySem.W.Frag) (C : Addr) (fs : List Str) : Prop where
  cl : Cls K C
  no : ∀ f ∈ fs, NoAttr K C f
def mtN : List Str := ["number", "space", "tree", "root", "parent", "place", "group", "follows", "marked", "locked", "stem"]
def mtF (n sp tr rt pa pl gr fo ma lo st : V) : List (Str × V) := [("number", n), ("space", sp), ("tree", tr), ("root", rt), ("parent", pa), ("place", pl), ("group", gr), ("follows", fo), ("marked", ma), ("locked", lo), ("stem", st)]
def spMtI (CM : Addr) : Sp := fun vs H Q _ => ∃ x dx n sp tr rt, vs = [.ref x, n, sp, tr, rt] ∧ H x = some (.ins CM dx []) ∧ ∀ H', But x H H' → H' x = some (.ins CM dx (mtF n sp tr rt .non .non .non .non (.bl false) (.bl false) .non)) → Q .non H'
section
variable {P : Program} {w : World} {K : PySem.W.Frag} {mg : Str → Option Value} {base : Heap}
theorem ok_mtI {f CM : Addr} {fd : FuncData} {k : Nat} (F : Fun K "__init__" "Mount.__init__" sMtI f fd) (c : Cn K CM mtN) : FnOk P w K mg base CX0 (k + 1) f fd ["self", "number", "space", "tree", "root"] (spMtI CM) := by
  refine F.ok scMtI (fun vs H Q E h => ?_) (fun cdv A outer s H vs Q E hr h => ?_)
  · obtain ⟨x, dx, n, sp, tr, rt, rfl, _⟩ := h
    rfl
  · obtain ⟨x, dx, n, sp, tr, rt, rfl, hx, q⟩ := h
    have N : ∀ f ∈ mtN, NoAttr K CM f := c.no
    obtain ⟨t, ht, hq⟩ : HoS (cxOf CX0 P w K mg base ["self", "number", "space", "tree", "root"] "Mount.__init__" (defScope sMtI) f cdv A outer s H E).nox (defBody sMtI) (Fd [some (.ref x), some n, some sp, some tr, some rt] H x CM dx [] 0) (Fd [some (.ref x), some n, some sp, some tr, some rt] H x CM dx (mtF n sp tr rt .non .non .non .non (.bl false) (.bl false) .non) 11) := by
      refine HoS.cons (ho_fld (i := 0) (v := n) (pv 0) rfl (pv 1) (fun H Q h => ⟨_, rfl, h⟩) c.cl (N _ (by decide +kernel)) (by decide) rfl) ?_
      refine HoS.cons (ho_fld (i := 0) (v := sp) (pv 0) rfl (pv 2) (fun H Q h => ⟨_, rfl, h⟩) c.cl (N _ (by decide +kernel)) (by decide) rfl) ?_
      refine HoS.cons (ho_fld (i := 0) (v := tr) (pv 0) rfl (pv 3) (fun H Q h => ⟨_, rfl, h⟩) c.cl (N _ (by decide +kernel)) (by decide) rfl) ?_
      refine HoS.cons (ho_fld (i := 0) (v := rt) (pv 0) rfl (pv 4) (fun H Q h => ⟨_, rfl, h⟩) c.cl (N _ (by decide +kernel)) (by decide) rfl) ?_
      refine HoS.cons (ho_fld (i := 0) (v := .non) (pv 0) rfl pe_non (fun H Q h => h) c.cl (N _ (by decide +kernel)) (by decide) rfl) ?_
      refine HoS.cons (ho_fld (i := 0) (v := .non) (pv 0) rfl pe_non (fun H Q h => h) c.cl (N _ (by decide +kernel)) (by decide) rfl) ?_
      refine HoS.cons (ho_fld (i := 0) (v := .non) (pv 0) rfl pe_non (fun H Q h => h) c.cl (N _ (by decide +kernel)) (by decide) rfl) ?_
      refine HoS.cons (ho_fld (i := 0) (v := .non) (pv 0) rfl pe_non (fun H Q h => h) c.cl (N _ (by decide +kernel)) (by decide) rfl) ?_
      refine HoS.cons (ho_fld (i := 0) (v := .bl false) (pv 0) rfl pe_bl (fun H Q h => h) c.cl (N _ (by decide +kernel)) (by decide) rfl) ?_
      refine HoS.cons (ho_fld (i := 0) (v := .bl false) (pv 0) rfl pe_bl (fun H Q h => h) c.cl (N _ (by decide +kernel)) (by decide) rfl) ?_
      refine HoS.cons (ho_fld (i := 0) (v := .non) (pv 0) rfl pe_non (fun H Q h => h) c.cl (N _ (by decide +kernel)) (by decide) rfl) ?_
      exact HoS.nil
    exact ⟨t, ht, hq _ _ _ ⟨rfl, But.refl _ _, hx, Nat.le_refl _⟩ fun σ' H' z => q H' z.2.1 z.2.2.1⟩
end
end Tx
set_option Elab.async false
set_option linter.all false
set_option maxRecDepth 100000
set_option maxHeartbeats 4000000
namespace Ob
open PySem PySem.Spec PyProof.Rows L2 Cm
/-- the object x, with k new empty dicts among its fields -/
def Fe (σ0 : L2.St) (H0 : Hp) (x C dx : Addr) (n k : Nat) (P : List Addr → List (Str × V)) : L2.St → Hp → Prop := fun σ H => ∃ ds : List Addr, ds.length = k ∧ σ = σ0 ∧ But x H0 H ∧ H x = some (.ins C dx (P ds)) ∧ (P ds).length ≤ n ∧ (∀ d ∈ ds, H0 d = none ∧ d ≠ x ∧ H d = some (.dK [])) ∧ ds.Nodup
theorem But.none {x : Addr} {H0 H : Hp} {d : Addr} {o : HO} (b : But x H0 H) (hx : H x = some o) (hd : H d = none) : H0 d = none ∧ d ≠ x := by
  have ne : d ≠ x := fun z => by
    rw [z, hx] at hd
    cases hd
  refine ⟨?_, ne⟩
  cases e : H0 d with
  | none => rfl
  | some u =>
    rw [b d u ne e] at hd
    cases hd
section
variable {X : Cx} {σ0 : L2.St} {H0 : Hp} {x C dx : Addr} {f y : Str} {i n k : Nat} {p p' pos p2 : Pos} {P P' : List Addr → List (Str × V)}
/-- self.f = {} -/
theorem ho_dnew (hs : PE X (.Name y p) (tVar i)) (hi : σ0[i]? = some (some (.ref x))) (cl : Cls X.K C) (no : NoAttr X.K C f) (hl : n ≤ 100) (hP : ∀ ds d, ds.length = k → P' (ds ++ [d]) = putF f (.ref d) (P ds))
    (sw : swapsWith (.Dict [] [] p2) (some (.Attribute (.Name y p) f p')) pos.line X.env = pure false) : Ho X (.Assign [.Attribute (.Name y p) f p'] (.Dict [] [] p2) pos) (Fe σ0 H0 x C dx n k P) (Fe σ0 H0 x C dx (n + 1) (k + 1) P') := by
  refine ⟨_, ps_fld hs pe_dnewK sw, ?_⟩
  rintro D σ H ⟨ds, hk, rfl, b, hx, hn, hd, nd⟩ q d hd0
  have hz := But.none b hx hd0
  refine ⟨_, hi, x, C, dx, P ds, rfl, (by rw [upd_ne (ne_of_none hx hd0)]; exact hx), cl, no, by omega, q _ _ ⟨ds ++ [d], by rw [List.length_append, hk]; rfl, rfl, (b.trans (But.new hd0)).trans But.upd, ?_, ?_, fun a ha => ?_, ?_⟩⟩
  · rw [hP ds d hk]
    exact upd_same
  · rw [hP ds d hk]
    exact Nat.le_trans (putF_len _ _ _) (by omega)
  · rcases List.mem_append.mp ha with ha | ha
    · obtain ⟨h1, h2, h3⟩ := hd a ha
      exact ⟨h1, h2, by rw [upd_ne h2, upd_ne (ne_of_none h3 hd0)]; exact h3⟩
    · have e : a = d := by simpa using ha
      subst e
      exact ⟨hz.1, hz.2, by rw [upd_ne hz.2]; exact upd_same⟩
  · rw [List.nodup_append]
    refine ⟨nd, by simp, fun a ha c hc => ?_⟩
    have e : c = d := by simpa using hc
    subst e
    intro z
    have h3 := (hd a ha).2.2
    rw [z, hd0] at h3
    cases h3
end
end Ob
namespace Tx
open PySem PySem.Spec PyProof.Rows L2 Cm Ob
abbrev sTbI : Stmt := inClass sTableC 0
theorem scTbI : FnScope ["self", "trees", "most"] ["self", "trees", "most"] (defScope sTbI) := ⟨rfl, rfl, rfl, by decide +kernel, rfl, by decide +kernel, by decide +kernel⟩
def tbN : List Str := ["trees", "most", "known", "placed", "tops", "owners", "masters", "members", "behind", "counts"]
def tbF (tr mo kn_ pl_ to_ ow_ ma_ me_ be_ ct : V) : List (Str × V) := [("trees", tr), ("most", mo), ("known", kn_), ("placed", pl_), ("tops", to_), ("owners", ow_), ("masters", ma_), ("members", me_), ("behind", be_), ("counts", ct)]
def pT0 (tr mo : V) (ds : List Addr) : List (Str × V) := match ds with | [] => [("trees", tr), ("most", mo)] | _ => []
def pT1 (tr mo : V) (ds : List Addr) : List (Str × V) := match ds with | [d0] => [("trees", tr), ("most", mo), ("known", .ref d0)] | _ => []
def pT2 (tr mo : V) (ds : List Addr) : List (Str × V) := match ds with | [d0, d1] => [("trees", tr), ("most", mo), ("known", .ref d0), ("placed", .ref d1)] | _ => []
def pT3 (tr mo : V) (ds : List Addr) : List (Str × V) := match ds with | [d0, d1, d2] => [("trees", tr), ("most", mo), ("known", .ref d0), ("placed", .ref d1), ("tops", .ref d2)] | _ => []
def pT4 (tr mo : V) (ds : List Addr) : List (Str × V) := match ds with | [d0, d1, d2, d3] => [("trees", tr), ("most", mo), ("known", .ref d0), ("placed", .ref d1), ("tops", .ref d2), ("owners", .ref d3)] | _ => []
def pT5 (tr mo : V) (ds : List Addr) : List (Str × V) := match ds with | [d0, d1, d2, d3, d4] => [("trees", tr), ("most", mo), ("known", .ref d0), ("placed", .ref d1), ("tops", .ref d2), ("owners", .ref d3), ("masters", .ref d4)] | _ => []
def pT6 (tr mo : V) (ds : List Addr) : List (Str × V) := match ds with | [d0, d1, d2, d3, d4, d5] => [("trees", tr), ("most", mo), ("known", .ref d0), ("placed", .ref d1), ("tops", .ref d2), ("owners", .ref d3), ("masters", .ref d4), ("members", .ref d5)] | _ => []
def pT7 (tr mo : V) (ds : List Addr) : List (Str × V) := match ds with | [d0, d1, d2, d3, d4, d5, d6] => [("trees", tr), ("most", mo), ("known", .ref d0), ("placed", .ref d1), ("tops", .ref d2), ("owners", .ref d3), ("masters", .ref d4), ("members", .ref d5), ("behind", .ref d6)] | _ => []
theorem pT0_put {tr mo : V} (ds : List Addr) (d : Addr) (h : ds.length = 0) : pT1 tr mo (ds ++ [d]) = putF "known" (.ref d) (pT0 tr mo ds) := match ds, h with | [], _ => rfl
theorem pT1_put {tr mo : V} (ds : List Addr) (d : Addr) (h : ds.length = 1) : pT2 tr mo (ds ++ [d]) = putF "placed" (.ref d) (pT1 tr mo ds) := match ds, h with | [_], _ => rfl
theorem pT2_put {tr mo : V} (ds : List Addr) (d : Addr) (h : ds.length = 2) : pT3 tr mo (ds ++ [d]) = putF "tops" (.ref d) (pT2 tr mo ds) := match ds, h with | [_, _], _ => rfl
theorem pT3_put {tr mo : V} (ds : List Addr) (d : Addr) (h : ds.length = 3) : pT4 tr mo (ds ++ [d]) = putF "owners" (.ref d) (pT3 tr mo ds) := match ds, h with | [_, _, _], _ => rfl
theorem pT4_put {tr mo : V} (ds : List Addr) (d : Addr) (h : ds.length = 4) : pT5 tr mo (ds ++ [d]) = putF "masters" (.ref d) (pT4 tr mo ds) := match ds, h with | [_, _, _, _], _ => rfl
theorem pT5_put {tr mo : V} (ds : List Addr) (d : Addr) (h : ds.length = 5) : pT6 tr mo (ds ++ [d]) = putF "members" (.ref d) (pT5 tr mo ds) := match ds, h with | [_, _, _, _, _], _ => rfl
theorem pT6_put {tr mo : V} (ds : List Addr) (d : Addr) (h : ds.length = 6) : pT7 tr mo (ds ++ [d]) = putF "behind" (.ref d) (pT6 tr mo ds) := match ds, h with | [_, _, _, _, _, _], _ => rfl
def cntK (a b c : Int) : List (Key × V) := [(Sum.inr "mount", .int a), (Sum.inr "group", .int b), (Sum.inr "stem", .int c)]
def spTbI (CT : Addr) : Sp := fun vs H Q _ => ∃ x dx tr mo, vs = [.ref x, tr, mo] ∧ H x = some (.ins CT dx []) ∧ ∀ H' ds ct, ds.length = 7 → But x H H' → H' x = some (.ins CT dx (pT7 tr mo ds ++ ([("counts", V.ref ct)] : List (Str × V)))) → (∀ d ∈ ds, H d = none ∧ d ≠ x ∧ H' d = some (.dK [])) → ds.Nodup → ct ∉ ds → H ct = none → ct ≠ x → H' ct = some (.dK (cntK 0 0 0)) → Q .non H'
section
variable {P : Program} {w : World} {K : PySem.W.Frag} {mg : Str → Option Value} {base : Heap}
theorem ok_tbI {f CT : Addr} {fd : FuncData} {k : Nat} (F : Fun K "__init__" "Table.__init__" sTbI f fd) (c : Cn K CT tbN) : FnOk P w K mg base CX0 (k + 1) f fd ["self", "trees", "most"] (spTbI CT) := by
  refine F.ok scTbI (fun vs H Q E h => ?_) (fun cdv A outer s H vs Q E hr h => ?_)
  · obtain ⟨x, dx, tr, mo, rfl, _⟩ := h
    rfl
  · obtain ⟨x, dx, tr, mo, rfl, hx, q⟩ := h
    have N : ∀ f ∈ tbN, NoAttr K CT f := c.no
    have last : Ho (cxOf CX0 P w K mg base ["self", "trees", "most"] "Table.__init__" (defScope sTbI) f cdv A outer s H E).nox ((defBody sTbI).getD 9 (.Pass ⟨0, 0, 0, 0⟩)) (Fe [some (.ref x), some tr, some mo] H x CT dx 9 7 (pT7 tr mo)) (fun _ H' => Q .non H') := by
      refine ⟨_, ps_fld (pv 0) (pe_disp (pps_cons pe_str pe_int (pps_cons pe_str pe_int (pps_cons pe_str pe_int pps_nil))) rfl rfl (by simp) (by decide)) rfl, ?_⟩
      rintro D σ H1 ⟨ds, hk, rfl, b, hx1, hn, hd, nd⟩ k ct hct
      refine ⟨upd_same, [(Sum.inr "mount", .int 0), (Sum.inr "group", .int 0), (Sum.inr "stem", .int 0)], rfl, by show 3 ≤ 15; decide, ?_⟩
      have hz := But.none b hx1 hct
      have b1 : But x H1 (upd (upd H1 ct (.dK [])) ct (.dK (cntK 0 0 0))) := fun a o n h => by
        rw [upd_ne (ne_of_none h hct), upd_ne (ne_of_none h hct)]
        exact h
      refine ⟨_, rfl, x, CT, dx, pT7 tr mo ds, rfl, ?_, c.cl, N _ (by decide +kernel), by omega, k _ _ ?_⟩
      · show upd (upd H1 ct (.dK [])) ct _ x = _
        rw [upd_ne (ne_of_none hx1 hct), upd_ne (ne_of_none hx1 hct)]
        exact hx1
      · refine q _ ds ct hk (b.trans (b1.trans But.upd)) ?_ (fun d hd' => ?_) nd (fun z => ?_) hz.1 hz.2 ?_
        · rw [upd_same]
          match ds, hk with
          | [_, _, _, _, _, _, _], _ => rfl
        · obtain ⟨h1, h2, h3⟩ := hd d hd'
          exact ⟨h1, h2, (b1.trans But.upd) d _ h2 h3⟩
        · have h3 := (hd ct z).2.2
          rw [hct] at h3
          cases h3
        · rw [upd_ne hz.2]
          exact upd_same
    obtain ⟨t, ht, hq⟩ : HoS (cxOf CX0 P w K mg base ["self", "trees", "most"] "Table.__init__" (defScope sTbI) f cdv A outer s H E).nox (defBody sTbI) (Fd [some (.ref x), some tr, some mo] H x CT dx [] 0) (fun _ H' => Q .non H') := by
      refine HoS.cons (ho_fld (i := 0) (v := tr) (pv 0) rfl (pv 1) (fun H Q h => ⟨_, rfl, h⟩) c.cl (N _ (by decide +kernel)) (by decide) rfl) ?_
      refine HoS.cons (ho_fld (i := 0) (v := mo) (pv 0) rfl (pv 2) (fun H Q h => ⟨_, rfl, h⟩) c.cl (N _ (by decide +kernel)) (by decide) rfl) ?_
      refine HoS.conseq (p := Fe [some (.ref x), some tr, some mo] H x CT dx 2 0 (pT0 tr mo)) (q := fun _ H' => Q .non H') ?_ (fun σ H1 z => ⟨[], rfl, z.1, z.2.1, z.2.2.1, z.2.2.2, by simp, by simp⟩) (fun _ _ z => z)
      refine HoS.cons (ho_dnew (i := 0) (k := 0) (pv 0) rfl c.cl (N _ (by decide +kernel)) (by decide) (pT0_put) rfl) ?_
      refine HoS.cons (ho_dnew (i := 0) (k := 1) (pv 0) rfl c.cl (N _ (by decide +kernel)) (by decide) (pT1_put) rfl) ?_
      refine HoS.cons (ho_dnew (i := 0) (k := 2) (pv 0) rfl c.cl (N _ (by decide +kernel)) (by decide) (pT2_put) rfl) ?_
      refine HoS.cons (ho_dnew (i := 0) (k := 3) (pv 0) rfl c.cl (N _ (by decide +kernel)) (by decide) (pT3_put) rfl) ?_
      refine HoS.cons (ho_dnew (i := 0) (k := 4) (pv 0) rfl c.cl (N _ (by decide +kernel)) (by decide) (pT4_put) rfl) ?_
      refine HoS.cons (ho_dnew (i := 0) (k := 5) (pv 0) rfl c.cl (N _ (by decide +kernel)) (by decide) (pT5_put) rfl) ?_
      refine HoS.cons (ho_dnew (i := 0) (k := 6) (pv 0) rfl c.cl (N _ (by decide +kernel)) (by decide) (pT6_put) rfl) ?_
      exact HoS.cons last HoS.nil
    exact ⟨t, ht, hq _ _ _ ⟨rfl, But.refl _ _, hx, Nat.le_refl _⟩ fun σ' H' z => z⟩
end
end Tx
set_option Elab.async false
set_option linter.all false
set_option maxRecDepth 100000
set_option maxHeartbeats 4000000
namespace Tx
open PySem PySem.Spec PyProof.Rows L2 Cm Ob
abbrev sNext : Stmt := inClass sTableC 2
abbrev sNewM : Stmt := inClass sTableC 6
theorem scNext : FnScope ["self", "what", "found"] ["self", "what"] (defScope sNext) := ⟨rfl, rfl, rfl, by decide +kernel, rfl, by decide +kernel, by decide +kernel⟩
theorem scNewM : FnScope ["self", "space", "tree", "root", "found"] ["self", "space", "tree", "root"] (defScope sNewM) := ⟨rfl, rfl, rfl, by decide +kernel, rfl, by decide +kernel, by decide +kernel⟩
def spNext (CT : Addr) : Sp := fun vs H Q _ => ∃ T dx fs c kvs z n, vs = [.ref T, .str z] ∧ H T = some (.ins CT dx fs) ∧ fs.lookup ("counts" : Str) = some (.ref c) ∧ H c = some (.dK kvs) ∧ valV kvs (Sum.inr z : Key) = some (.int n) ∧ kvs.length ≤ 100 ∧
  ∀ H', But c H H' → H' c = some (.dK (putK kvs (Sum.inr z : Key) (.int (n + 1)))) → Q (.int n) H'
section
variable {P : Program} {w : World} {K : PySem.W.Frag} {mg : Str → Option Value} {base : Heap}
theorem ok_next {f CT : Addr} {fd : FuncData} {k : Nat} (F : Fun K "next" "Table.next" sNext f fd) (c : Cn K CT tbN) : FnOk P w K mg base CX0 (k + 1) f fd ["self", "what"] (spNext CT) := by
  refine F.ok scNext (fun vs H Q E h => ?_) (fun cdv A outer s H vs Q E hr h => ?_)
  · obtain ⟨T, dx, fs, c, kvs, z, n, rfl, _⟩ := h
    rfl
  · obtain ⟨T, dx, fs, cc, kvs, z, n, rfl, hT, hl, hc, hv, hn, q⟩ := h
    have hu1 : (cxOf CX0 P w K mg base ["self", "what", "found"] "Table.next" (defScope sNext) f cdv A outer s H E).nox.A.units + 1 < cLine := by
      have := hr.units
      exact Nat.lt_of_le_of_lt (Nat.add_le_add_left (by decide) _) this
    have no := c.no "counts" (by decide +kernel)
    refine ⟨_, pss_cons (ps_set (i := 2) scNext.nd rfl (.inl rfl) (pe_dget hu1 (pe_fld (pv 0) rfl) (pv 1) (fun _ _ => rfl))) (pss_cons (ps_dput hu1 (pe_fld (pv 0) rfl) (pv 1) (pe_op op_add (pv 2) pe_int) rfl) (pss_one (ps_ret (pv 2)))), ?_⟩
    refine ⟨_, rfl, T, CT, dx, fs, .ref cc, rfl, hT, c.cl, no, hl, _, rfl, cc, .int n, rfl, ?_, ?_⟩
    · rw [← hv]
      exact DGet.k (k := (Sum.inr z : Key)) hc
    · exact ⟨_, rfl, n, 1, rfl, rfl, _, rfl, T, CT, dx, fs, .ref cc, rfl, hT, c.cl, no, hl, _, rfl, cc, _, rfl, DPut.k (k := (Sum.inr z : Key)) hc (small1000 (by omega)), _, rfl, q _ But.upd upd_same⟩
/-- all but three -/
def But3 (a b c : Addr) (H H' : Hp) : Prop := ∀ d o, d ≠ a → d ≠ b → d ≠ c → H d = some o → H' d = some o
def spNewM (CT CM : Addr) : Sp := fun vs H Q _ => ∃ T dx fs c kn pl kvs kk kp n sp tr rt, vs = [.ref T, sp, tr, rt] ∧ H T = some (.ins CT dx fs) ∧ fs.lookup ("counts" : Str) = some (.ref c) ∧ fs.lookup ("known" : Str) = some (.ref kn) ∧ fs.lookup ("placed" : Str) = some (.ref pl) ∧ fs.lookup ("next" : Str) = none ∧
  H c = some (.dK kvs) ∧ valV kvs (Sum.inr "mount" : Key) = some (.int n) ∧ kvs.length ≤ 100 ∧ H kn = some (.dK kk) ∧ kk.length ≤ 10000 ∧ H pl = some (.dK kp) ∧ kp.length ≤ 10000 ∧ c ≠ kn ∧ c ≠ pl ∧ kn ≠ pl ∧
  ∀ H' m dm e, But3 c kn pl H H' → H m = none → H e = none → H' m = some (.ins CM dm (mtF (.int n) sp tr rt .non .non .non .non (.bl false) (.bl false) .non)) → H' e = some (.dK []) → H' c = some (.dK (putK kvs (Sum.inr "mount" : Key) (.int (n + 1)))) →
    H' kn = some (.dK (putK kk (Sum.inl n : Key) (.ref m))) → H' pl = some (.dK (putK kp (Sum.inl n : Key) (.ref e))) → m ≠ e → Q (.ref m) H'
theorem ok_newM {f CT CM fN fI : Addr} {fd fdN fdI : FuncData} {k : Nat} (F : Fun K "new_mount" "Table.new_mount" sNewM f fd) (c : Cn K CT tbN) (cM : Cn K CM mtN) (mN : Meth K CT "next" fN) (FN : FnOk P w K mg base CX0 1 fN fdN ["self", "what"] (spNext CT)) (bN : Binds K fdN ["self", "what"] [])
    (MK : Mk K CM fI) (gM : mg "Mount" = some (.ref CM)) (FI : FnOk P w K mg base CX0 1 fI fdI ["self", "number", "space", "tree", "root"] (spMtI CM)) (bI : Binds K fdI ["self", "number", "space", "tree", "root"] []) :
    FnOk P w K mg base CX0 (k + 3) f fd ["self", "space", "tree", "root"] (spNewM CT CM) := by
  refine F.ok scNewM (fun vs H Q E h => ?_) (fun cdv A outer s H vs Q E hr h => ?_)
  · obtain ⟨T, dx, fs, cc, kn, pl, kvs, kk, kp, n, sp, tr, rt, rfl, _⟩ := h
    rfl
  · obtain ⟨T, dx, fs, cc, kn, pl, kvs, kk, kp, n, sp, tr, rt, rfl, hT, lc, lk, lp, ln, hc, hv, hn, hk, hkl, hp, hpl, n1, n2, n3, q⟩ := h
    have hu1 : (cxOf CX0 P w K mg base ["self", "space", "tree", "root", "found"] "Table.new_mount" (defScope sNewM) f cdv A outer s H E).nox.A.units + 1 < cLine := by
      have := hr.units
      exact Nat.lt_of_le_of_lt (Nat.add_le_add_left (by decide) _) this
    have hr1 : Room 1 (cxOf CX0 P w K mg base ["self", "space", "tree", "root", "found"] "Table.new_mount" (defScope sNewM) f cdv A outer s H E).nox.A := hr.mono (by omega)
    have hr2 : Room 2 (cxOf CX0 P w K mg base ["self", "space", "tree", "root", "found"] "Table.new_mount" (defScope sNewM) f cdv A outer s H E).nox.A := hr.mono (by omega)
    refine ⟨_, pss_cons (ps_set (i := 4) scNewM.nd rfl (.inl rfl) (pe_make MK FI hr2 (by rfl) gM bI .nil pass0 (pa_cons (pe_meth (pv 0) c.cl mN FN hr1 bN .nil pass0 (pa_cons pe_str pa_nil)) (pa_cons (pv 1) (pa_cons (pv 2) (pa_cons (pv 3) pa_nil))))))
      (pss_cons (ps_dput hu1 (pe_fld (pv 0) rfl) (pe_fld (pv 4) rfl) (pv 4) rfl) (pss_cons (ps_dput hu1 (pe_fld (pv 0) rfl) (pe_fld (pv 4) rfl) pe_dnewK rfl) (pss_one (ps_ret (pv 4))))), ?_⟩
    refine ⟨_, rfl, T, dx, fs, rfl, hT, ln, T, dx, fs, cc, kvs, "mount", n, rfl, hT, lc, hc, hv, hn, fun H1 b1 hc1 => ?_⟩
    refine ⟨_, rfl, _, rfl, _, rfl, fun m dm hm hdm ne => ?_⟩
    refine ⟨m, dm, .int n, sp, tr, rt, rfl, upd_same, fun H2 b2 hm2 => ⟨rfl, ?_⟩⟩
    -- H1: counts moved on; H2: the mount made
    have hne : ∀ {b o}, H1 b = some o → b ≠ m ∧ b ≠ dm := fun {b o} h => ⟨ne_of_none h hm, ne_of_none h hdm⟩
    have up2 : ∀ b o, H1 b = some o → H2 b = some o := fun b o h => by
      refine b2 b o (hne h).1 ?_
      rw [upd_ne (hne h).1, upd_ne (hne h).2]
      exact h
    have nTc : T ≠ cc := ne_of hT hc (by intro z; cases z)
    have hT1 := b1 T _ nTc hT
    have hk1 := b1 kn _ (Ne.symm n1) hk
    have hp1 := b1 pl _ (Ne.symm n2) hp
    have hm0 : H m = none := by
      cases e : H m with
      | none => rfl
      | some o =>
        by_cases z : m = cc
        · rw [z, hc1] at hm
          cases hm
        · rw [b1 m o z e] at hm
          cases hm
    have nmk : m ≠ kn := Ne.symm (hne hk1).1
    have nmp : m ≠ pl := Ne.symm (hne hp1).1
    have nmc : m ≠ cc := Ne.symm (hne hc1).1
    have nTk : T ≠ kn := ne_of hT hk (by intro z; cases z)
    have nTp : T ≠ pl := ne_of hT hp (by intro z; cases z)
    have lm : (mtF (.int n) sp tr rt .non .non .non .non (.bl false) (.bl false) .non).lookup ("number" : Str) = some (.int n) := rfl
    refine ⟨_, rfl, _, rfl, T, CT, dx, fs, .ref kn, rfl, up2 _ _ hT1, c.cl, c.no _ (by decide +kernel), lk, _, rfl, m, CM, dm, _, .int n, rfl, hm2, cM.cl, cM.no _ (by decide +kernel), lm, kn, _, rfl, DPut.k (k := (Sum.inl n : Key)) (up2 _ _ hk1) (Nat.lt_of_le_of_lt hkl (by decide)), ?_⟩
    intro e he
    have hT3 : upd H2 kn (.dK (putK kk (Sum.inl n : Key) (.ref m))) T = some (.ins CT dx fs) := by
      rw [upd_ne nTk]
      exact up2 _ _ hT1
    have hm3 : upd H2 kn (.dK (putK kk (Sum.inl n : Key) (.ref m))) m = some (.ins CM dm (mtF (.int n) sp tr rt .non .non .non .non (.bl false) (.bl false) .non)) := by
      rw [upd_ne nmk]
      exact hm2
    have hp3 : upd H2 kn (.dK (putK kk (Sum.inl n : Key) (.ref m))) pl = some (.dK kp) := by
      rw [upd_ne (Ne.symm n3)]
      exact up2 _ _ hp1
    have hc3 : upd H2 kn (.dK (putK kk (Sum.inl n : Key) (.ref m))) cc = some (.dK (putK kvs (Sum.inr "mount" : Key) (.int (n + 1)))) := by
      rw [upd_ne n1]
      exact up2 _ _ hc1
    have nek : ∀ {b o}, upd H2 kn (.dK (putK kk (Sum.inl n : Key) (.ref m))) b = some o → b ≠ e := fun h => ne_of_none h he
    have he0 : H e = none := by
      cases z : H e with
      | none => rfl
      | some o =>
        by_cases z1 : e = cc
        · rw [z1, hc3] at he
          cases he
        by_cases z2 : e = kn
        · rw [z2, upd_same] at he
          cases he
        · rw [upd_ne z2, up2 _ _ (b1 e o z1 z)] at he
          cases he
    refine ⟨_, rfl, T, CT, dx, fs, .ref pl, rfl, (by rw [upd_ne (nek hT3)]; exact hT3), c.cl, c.no _ (by decide +kernel), lp, _, rfl, m, CM, dm, _, .int n, rfl, (by rw [upd_ne (nek hm3)]; exact hm3), cM.cl, cM.no _ (by decide +kernel), lm, pl, _, rfl, DPut.k (k := (Sum.inl n : Key)) (kvs := kp) (by rw [upd_ne (nek hp3)]; exact hp3) (Nat.lt_of_le_of_lt hpl (by decide)), _, rfl, ?_⟩
    have nep : e ≠ pl := Ne.symm (nek hp3)
    refine q _ m dm e (fun d o d1 d2 d3 h => ?_) hm0 he0 ?_ ?_ ?_ ?_ ?_ (nek hm3)
    · have h3 : upd H2 kn (.dK (putK kk (Sum.inl n : Key) (.ref m))) d = some o := by
        rw [upd_ne d2]
        exact up2 _ _ (b1 d o d1 h)
      rw [upd_ne d3, upd_ne (nek h3)]
      exact h3
    · rw [upd_ne nmp, upd_ne (nek hm3)]
      exact hm3
    · rw [upd_ne nep]
      exact upd_same
    · rw [upd_ne n2, upd_ne (nek hc3)]
      exact hc3
    · rw [upd_ne n3, upd_ne (nek (b := kn) upd_same)]
      exact upd_same
    · exact upd_same
end
end Tx
set_option Elab.async false
set_option linter.all false
set_option maxRecDepth 100000
set_option maxHeartbeats 4000000
namespace Tx
open PySem PySem.Spec PyProof.Rows L2 Cm Ob
/-- what is never reached wants nothing -/
theorem pss_never {X : Cx} {sts : List Stmt} : PSs X sts (fun _ _ _ => False) := ⟨fun _ _ _ _ _ _ h => h.elim⟩
def tNo : TE := fun _ _ _ => False
theorem pe_never {X : Cx} {e : Expr} : PE X e tNo := ⟨fun _ _ _ _ _ _ h => h.elim⟩
theorem units1 {A : Around} {k : Nat} (hr : Room k A) : A.units + 1 < cLine := Nat.lt_of_le_of_lt (Nat.add_le_add_left (by decide) _) hr.units
/-- the class Tree, as isinstance asks it -/
structure TrI (K : PySem.W.Frag) (mg : Str → Option Value) (C : Addr) : Prop where
  cl : Cls K C
  mgC : mg "Tree" = some (.ref C)
  ha : PySem.W.findIn K (.ref C) "__class__" = some (some (.builtin "object.__class__"))
  hn : PySem.W.specialIn K (.builtin "object.__class__") "__get__" = some (some (.builtin "getset_descriptor.__get__"))
  ht : PySem.W.takesIn K (.builtin "object.__class__") = some true
  hm : PySem.W.mroIn K C (.type "object") = some true
  one : PySem.W.kitOne K (.ref C) (.ref C) = some true
theorem scAT : FnScope ["thing", "name", "tree"] ["thing"] (defScope sAreTrees) := ⟨rfl, rfl, rfl, by decide +kernel, rfl, by decide +kernel, by decide +kernel⟩
def spTrees (C : Addr) : Sp := fun vs H Q _ => ∃ d z a dt ft, vs = [.ref d] ∧ H d = some (.dK [((Sum.inr z : Key), .ref a)]) ∧ nameB z = true ∧ z.length ≤ 100000 ∧ H a = some (.ins C dt ft) ∧ ∀ H', Same H H' → Q (.bl true) H'
section
variable {P : Program} {w : World} {K : PySem.W.Frag} {mg : Str → Option Value} {base : Heap}
theorem ok_trees {f C : Addr} {fd : FuncData} {k : Nat} (F : Fun K "are_trees" "are_trees" sAreTrees f fd) (B : Bi mg) (T : TrI K mg C) (N : Cl P w K mg base CX0 1 "is_name" ["thing"] (spName K)) : FnOk P w K mg base CX0 (k + 2) f fd ["thing"] (spTrees C) := by
  refine F.ok scAT (fun vs H Q E h => ?_) (fun cdv A outer s H vs Q E hr h => ?_)
  · obtain ⟨d, z, a, dt, ft, rfl, _⟩ := h
    rfl
  · obtain ⟨d, z, a, dt, ft, rfl, hd, hz, hzl, ha, q⟩ := h
    refine ⟨_, pss_cons (ps_if (PW.pt (pw_or (pt_not (pt_val (pe_callB call_isi (by rfl) B.isin (by decide +kernel) (pa_cons (pv 0) (pa_cons (pe_bltn (v := .ty "dict") (by rfl) B.dict (by decide +kernel) rfl) pa_nil))))) (pw_or1 (pt_not (pt_chain op_le op_le pe_int (pe_callB call_lenD (by rfl) B.len PySem.boot_len (pa_cons (pv 0) pa_nil)) pe_int))))) pss_never pss_nil)
      (pss_one (ps_ret (pe_lock (pe_callB (cr_all rfl) (by rfl) B.all (by decide +kernel) (pa_cons (pe_lc (own := [("name", 1), ("tree", 2)]) (g := gTup K 2 (gCons (gName 1) (gCons (gName 2) gNil))) (tt := tYes) (by rfl) scAT.nd (pi_items (pv 0)) (blkOk_by (own := [("name", 1), ("tree", 2)]) (N := ["thing", "name", "tree"]) (sc := defScope sAreTrees) (by decide +kernel))
        (fun _ _ _ _ _ => pg_tup rfl (pgs_cons (pg_name (i := 1) scAT.nd rfl (Or.inl rfl)) (pgs_cons (pg_name (i := 2) scAT.nd rfl (Or.inl rfl)) pgs_nil))) (fun _ _ _ _ _ => pts_nil)
        (fun _ _ _ _ _ => pe_and (pe_cl N hr (by omega) (by rfl) pass0 (pa_cons (pv 1) pa_nil)) (pe_one (pe_callB (callIsiK (K := K) rfl) (by rfl) B.isin (by decide +kernel) (pa_cons (pv 2) (pa_cons (pe_glob (v := .ref C) (by rfl) T.mgC rfl) pa_nil)))))) pa_nil))))), ?_⟩
    refine ⟨_, rfl, _, .ty "dict", _, _, true, rfl, .ty _, .base (.dK hd), kit_ty (by decide +kernel), _, rfl, iteF ?_⟩
    refine ⟨_, rfl, d, _, rfl, hd, _, _, rfl, rfl, _, rfl, iteT ⟨_, _, rfl, rfl, _, rfl, iteF ?_⟩⟩
    refine ⟨d, _, hd, trivial, fun od => ?_⟩
    have had : a ≠ d := ne_of ha hd (by intro z; cases z)
    refine ⟨_, rfl, d, od, _, rfl, upd_same, fun D hD => lc_it walk_items (fun i H' => H' D = some (.lst ((List.replicate i true).map V.bl)) ∧ Same (upd H d (.frz od (.dK [((Sum.inr z : Key), .ref a)]))) H') ⟨upd_same, same_new hD⟩ (fun i H' _ h => h.2 _ _ upd_same) ?_ ?_⟩
    · rintro i x H1 H2 hi ⟨h3, sm⟩ ⟨T1, xx, yy, rfl, hT, rfl, hx, hy⟩
      have hi0 : i = 0 := by
        have : i < 1 := hi
        omega
      subst hi0
      cases hx
      cases hy
      have sT := same_new (o := HO.tup [kV (Sum.inr z : Key), .ref a]) hT
      refine ⟨T1, _, rfl, SqT.of upd_same, rfl, _, _, rfl, _, _, rfl, rfl, rfl, _, rfl, _, _, rfl, .str z hzl, fun H3 s3 => ?_⟩
      rw [hz]
      have ha3 : H3 a = some (.ins C dt ft) := s3 _ _ (sT _ _ (sm _ _ (by rw [upd_ne had]; exact ha)))
      refine ⟨_, rfl, iteT ⟨_, rfl, _, .ref C, _, _, true, rfl, .own C, .base (.ins ha3 T.cl T.ha T.hn T.ht T.hm), T.one, _, s3 _ _ (sT _ _ h3), by decide, ?_, same_mut hD ((sm.trans sT).trans s3)⟩⟩
      rw [upd_same]
      rfl
    · rintro H1 ⟨h3, sm⟩
      refine ⟨D, [true], rfl, SqL.of h3, sm _ _ upd_same, q _ fun b o hb => ?_⟩
      by_cases e : b = d
      · subst e
        rw [hd] at hb
        cases hb
        exact upd_same
      · rw [upd_ne e]
        exact sm _ _ (by rw [upd_ne e]; exact hb)
end
end Tx
set_option Elab.async false
set_option linter.all false
set_option maxRecDepth 100000
set_option maxHeartbeats 8000000
namespace Tx
open PySem PySem.Spec PyProof.Rows L2 Cm Ob
/-- a dict comprehension over a walk -/
theorem dc_it {J : It} {n : Nat} {G : Hp → Prop} {Y : Nat → Hp → V → Hp → Prop} (wk : Walk J n G Y) {g : TG} {tt : TT} {tk tv : TE} {vs : List Nat} {σ : L2.St} {H1 : Hp} {D : Addr} {Qd : Hp → Prop} (Pv : Nat → Hp → Prop) (h0 : Pv 0 (upd H1 D (.dK []))) (hG : ∀ i H, i ≤ n → Pv i H → G H)
    (hs : ∀ i x H H', i < n → Pv i H → Y i H x H' → g x (wipe σ vs) H' fun σ2 H2 => wipe σ2 vs = wipe σ vs ∧ tt σ2 H2 fun b H3 =>
      if b = true then tk σ2 H3 fun y H4 => tv σ2 H4 fun z H5 => ∃ kvs k, y = kV k ∧ H5 D = some (.dK kvs) ∧ kvs.length < sizeLine ∧ Pv (i + 1) (upd H5 D (.dK (putK kvs k z))) else Pv (i + 1) H3) (hd : ∀ H, Pv n H → Qd H) :
    ∃ W : Nat → Nat → Hp → Prop, (∃ m, W 0 m (upd H1 D (.dK []))) ∧ ∀ i m H, W i m H →
      (J.stop i H ∧ Qd H) ∨ (J.go i H ∧ ∃ Nx : Hp → Prop, (∀ H', Nx H' → ∃ m', m' < m ∧ W (i + 1) m' H') ∧ ∀ x H', J.yld i H x H' → g x (wipe σ vs) H' fun σ2 H2 => wipe σ2 vs = wipe σ vs ∧ tt σ2 H2 fun b H3 =>
        if b = true then tk σ2 H3 fun y H4 => tv σ2 H4 fun z H5 => ∃ kvs k, y = kV k ∧ H5 D = some (.dK kvs) ∧ kvs.length < sizeLine ∧ Nx (upd H5 D (.dK (putK kvs k z))) else Nx H3) := by
  refine ⟨fun i m H => m = n - i ∧ i ≤ n ∧ Pv i H, ⟨n, by simp, Nat.zero_le _, h0⟩, ?_⟩
  rintro i m H ⟨em, hi, p⟩
  by_cases hlt : i < n
  · exact .inr ⟨wk.goes i H hlt (hG i H hi p), Pv (i + 1), fun H' p' => ⟨n - (i + 1), by omega, rfl, hlt, p'⟩, fun x H' y => hs i x H H' hlt p (wk.yields i H x H' hlt (hG i H hi p) y)⟩
  · have e : i = n := by omega
    subst e
    exact .inl ⟨wk.stops H (hG _ H hi p), hd H p⟩
abbrev sWoI : Stmt := inClass sWorldC 0
abbrev nWo : List Str := ["self", "trees", "first", "most", "top", "name"]
theorem scWoI : FnScope nWo ["self", "trees", "first", "most"] (defScope sWoI) := ⟨rfl, rfl, rfl, by decide +kernel, rfl, by decide +kernel, by decide +kernel⟩
def stW (i : Nat) : Stmt := (defBody sWoI).getD i (.Pass ⟨0, 0, 0, 0⟩)
theorem bodyWoI : defBody sWoI = [stW 0, stW 1, stW 2, stW 3, stW 4, stW 5, stW 6, stW 7, stW 8, stW 9] := rfl
def woN : List Str := ["first", "deeds", "sessions", "table"]
def woF (fi de se ta : V) : List (Str × V) := [("first", fi), ("deeds", de), ("sessions", se), ("table", ta)]
/-- what World.__init__ calls -/
structure WoC (P : Program) (w : World) (K : PySem.W.Frag) (mg : Str → Option Value) (base : Heap) (CW CT CM CR : Addr) : Prop where
  cW : Cn K CW woN
  cT : Cn K CT tbN
  cM : Cn K CM mtN
  trees : Cl P w K mg base CX0 2 "are_trees" ["thing"] (spTrees CR)
  name : Cl P w K mg base CX0 1 "is_name" ["thing"] (spName K)
  whole : Cl P w K mg base CX0 1 "is_whole" ["thing", "low", "high"] (spWhole K)
  mkT : ∃ f fd, Mk K CT f ∧ FnOk P w K mg base CX0 1 f fd ["self", "trees", "most"] (spTbI CT) ∧ Binds K fd ["self", "trees", "most"] []
  gT : mg "Table" = some (.ref CT)
  newM : ∃ f fd, Meth K CT "new_mount" f ∧ FnOk P w K mg base CX0 3 f fd ["self", "space", "tree", "root"] (spNewM CT CM) ∧ Binds K fd ["self", "space", "tree", "root"] []
  next : ∃ f fd, Meth K CT "next" f ∧ FnOk P w K mg base CX0 1 f fd ["self", "what"] (spNext CT) ∧ Binds K fd ["self", "what"] []
abbrev XWo (P : Program) (w : World) (K : PySem.W.Frag) (mg : Str → Option Value) (base : Heap) (f : Addr) (cdv : Value) (A : Around) (outer : List Env) (s : Shared) (H0 : Hp) (E : XK) : Cx := (cxOf CX0 P w K mg base nWo "World.__init__" (defScope sWoI) f cdv A outer s H0 E).nox
/-- the arguments -/
structure WArg (H0 : Hp) (CW CR x dx d a : Addr) (z : Str) (mo : Int) : Prop where
  hx : H0 x = some (.ins CW dx [])
  hd : H0 d = some (.dK [((Sum.inr z : Key), .ref a)])
  hz : nameB z = true
  hl : z.length ≤ 100000
  ha : ∃ dt ft, H0 a = some (.ins CR dt ft)
  ne : a ≠ x
  m1 : 1 ≤ mo
  m2 : mo ≤ 5000
theorem WArg.nd {H0 : Hp} {CW CR x dx d a : Addr} {z : Str} {mo : Int} (W : WArg H0 CW CR x dx d a z mo) : d ≠ x := ne_of W.hd W.hx (by intro z; cases z)
abbrev sW0 (x d : Addr) (z : Str) (mo : Int) (top : Option V) : L2.St := [some (.ref x), some (.ref d), some (.str z), some (.int mo), top, none]
/-- a new object -/
def New (H0 : Hp) (x : Addr) (H : Hp) (p : Addr) (o : HO) : Prop := H0 p = none ∧ p ≠ x ∧ H p = some o
section
variable {P : Program} {w : World} {K : PySem.W.Frag} {mg : Str → Option Value} {base : Heap} {f : Addr} {cdv : Value} {A : Around} {outer : List Env} {s : Shared} {H0 : Hp} {E : XK} {CW CT CM CR x dx d a : Addr} {z : Str} {mo : Int}
theorem hWo0 (C : WoC P w K mg base CW CT CM CR) (W : WArg H0 CW CR x dx d a z mo) (hr : Room 6 (XWo P w K mg base f cdv A outer s H0 E).A) : Ho (XWo P w K mg base f cdv A outer s H0 E) (stW 0) (Fd (sW0 x d z mo none) H0 x CW dx [] 0) (Fd (sW0 x d z mo none) H0 x CW dx [] 0) := by
  refine ⟨_, ps_if (PW.pt (pw_or (pt_not (pt_val (pe_cl C.trees hr (by decide) (by rfl) pass0 (pa_cons (pv 1) pa_nil)))) (pw_or (pt_not (pt_val (pe_cl C.name hr (by decide) (by rfl) pass0 (pa_cons (pv 2) pa_nil)))) (pw_or1 (pt_cmp (pc_dnotin (units1 hr) (pv 2) (pv 1))))))) pss_never pss_nil, ?_⟩
  rintro D σ H ⟨rfl, b, hx, hn⟩ q
  obtain ⟨dt, ft, ha⟩ := W.ha
  have hd1 := b d _ W.nd W.hd
  refine ⟨_, rfl, d, z, a, dt, ft, rfl, hd1, W.hz, W.hl, b a _ W.ne ha, fun H1 s1 => ⟨_, rfl, iteF ?_⟩⟩
  refine ⟨_, rfl, _, _, rfl, .str z W.hl, fun H2 s2 => ?_⟩
  rw [W.hz]
  have hv : valV [((Sum.inr z : Key), V.ref a)] (Sum.inr z) = some (.ref a) := by simp [valV]
  have sm := s1.trans s2
  refine ⟨_, rfl, iteF ⟨_, rfl, _, rfl, d, _, rfl, DGet.k (k := (Sum.inr z : Key)) (sm _ _ hd1), _, rfl, ?_⟩⟩
  rw [hv]
  exact iteF (q _ _ ⟨rfl, b.trans (Same.but x sm), sm _ _ hx, hn⟩)
theorem hWo1 (C : WoC P w K mg base CW CT CM CR) (W : WArg H0 CW CR x dx d a z mo) (hr : Room 6 (XWo P w K mg base f cdv A outer s H0 E).A) : Ho (XWo P w K mg base f cdv A outer s H0 E) (stW 1) (Fd (sW0 x d z mo none) H0 x CW dx [] 0) (Fd (sW0 x d z mo none) H0 x CW dx [] 0) := by
  refine ⟨_, ps_if (pt_not (pt_val (pe_cl C.whole hr (by decide) (by rfl) pass0 (pa_cons (pv 3) (pa_cons pe_int (pa_cons pe_int pa_nil)))))) pss_never pss_nil, ?_⟩
  rintro D σ H ⟨rfl, b, hx, hn⟩ q
  refine ⟨_, rfl, _, _, _, _, rfl, .int mo 1 5000, _, rfl, ?_⟩
  rw [decide_eq_true W.m1, decide_eq_true W.m2]
  exact iteF (q _ _ ⟨rfl, b, hx, hn⟩)
def GW3 (H0 : Hp) (x CW dx d : Addr) (z : Str) (mo : Int) : L2.St → Hp → Prop := fun σ H => σ = sW0 x d z mo none ∧ ∃ l1, But x H0 H ∧ H x = some (.ins CW dx [("first", .str z), ("deeds", .ref l1)]) ∧ New H0 x H l1 (.lst [])
def GW4 (H0 : Hp) (x CW dx d : Addr) (z : Str) (mo : Int) : L2.St → Hp → Prop := fun σ H => σ = sW0 x d z mo none ∧ ∃ l1 l2, But x H0 H ∧ H x = some (.ins CW dx [("first", .str z), ("deeds", .ref l1), ("sessions", .ref l2)]) ∧ New H0 x H l1 (.lst []) ∧ New H0 x H l2 (.lst [])
theorem hWo3 (C : WoC P w K mg base CW CT CM CR) : Ho (XWo P w K mg base f cdv A outer s H0 E) (stW 3) (Fd (sW0 x d z mo none) H0 x CW dx [("first", .str z)] 1) (GW3 H0 x CW dx d z mo) := by
  refine ⟨_, ps_fld (pv 0) (pe_lst pa_nil) rfl, ?_⟩
  rintro D σ H ⟨rfl, b, hx, hn⟩ q
  refine ⟨by show 0 ≤ sizeLine; decide, fun l1 h1 => ?_⟩
  have hz := But.none b hx h1
  refine ⟨_, rfl, x, CW, dx, _, rfl, (by rw [upd_ne (ne_of_none hx h1)]; exact hx), C.cW.cl, C.cW.no _ (by decide +kernel), by show 1 < 1000; decide, q _ _ ⟨rfl, l1, (b.trans (But.new h1)).trans But.upd, upd_same, hz.1, hz.2, ?_⟩⟩
  rw [upd_ne hz.2]
  exact upd_same
theorem hWo4 (C : WoC P w K mg base CW CT CM CR) : Ho (XWo P w K mg base f cdv A outer s H0 E) (stW 4) (GW3 H0 x CW dx d z mo) (GW4 H0 x CW dx d z mo) := by
  refine ⟨_, ps_fld (pv 0) (pe_lst pa_nil) rfl, ?_⟩
  rintro D σ H ⟨rfl, l1, b, hx, n1, n2, n3⟩ q
  refine ⟨by show 0 ≤ sizeLine; decide, fun l2 h2 => ?_⟩
  have hz := But.none b hx h2
  refine ⟨_, rfl, x, CW, dx, _, rfl, (by rw [upd_ne (ne_of_none hx h2)]; exact hx), C.cW.cl, C.cW.no _ (by decide +kernel), by show 2 < 1000; decide, q _ _ ⟨rfl, l1, l2, (b.trans (But.new h2)).trans But.upd, upd_same, ⟨n1, n2, ?_⟩, hz.1, hz.2, ?_⟩⟩
  · rw [upd_ne n2, upd_ne (ne_of_none n3 h2)]
    exact n3
  · rw [upd_ne hz.2]
    exact upd_same
/-- the table that is made -/
structure GT5 (H0 : Hp) (x CW dx d a : Addr) (z : Str) (mo : Int) (CT : Addr) (H : Hp) (l1 l2 T dT tr ct : Addr) (ds : List Addr) : Prop where
  b : But x H0 H
  hx : H x = some (.ins CW dx (woF (.str z) (.ref l1) (.ref l2) (.ref T)))
  n1 : New H0 x H l1 (.lst [])
  n2 : New H0 x H l2 (.lst [])
  nT : New H0 x H T (.ins CT dT (pT7 (.ref tr) (.int mo) ds ++ ([("counts", V.ref ct)] : List (Str × V))))
  nr : New H0 x H tr (.dK [((Sum.inr z : Key), .ref a)])
  len : ds.length = 7
  nd : ∀ q ∈ ds, New H0 x H q (.dK [])
  nu : ds.Nodup
  nc : New H0 x H ct (.dK (cntK 0 0 0))
  cd : ct ∉ ds
  rd : tr ∉ ds
  rc : tr ≠ ct
def GW5 (H0 : Hp) (x CW dx d a : Addr) (z : Str) (mo : Int) (CT : Addr) : L2.St → Hp → Prop := fun σ H => σ = sW0 x d z mo none ∧ ∃ l1 l2 T dT tr ct ds, GT5 H0 x CW dx d a z mo CT H l1 l2 T dT tr ct ds
theorem hWo5 (C : WoC P w K mg base CW CT CM CR) (B : Bi mg) (W : WArg H0 CW CR x dx d a z mo) (hr : Room 6 (XWo P w K mg base f cdv A outer s H0 E).A) : Ho (XWo P w K mg base f cdv A outer s H0 E) (stW 5) (GW4 H0 x CW dx d z mo) (GW5 H0 x CW dx d a z mo CT) := by
  obtain ⟨fI, fdI, MK, FI, bI⟩ := C.mkT
  refine ⟨_, ps_fld (pv 0) (pe_make MK FI (hr.mono (by decide)) (by rfl) C.gT bI .nil pass0 (pa_cons (pe_dc (own := [("name", 5)]) (g := gName 5) (tt := tYes) (by rfl) scWoI.nd (pi_list (pe_callB (call_sortedD rfl) (by rfl) B.sorted boot_sorted (pa_cons (pv 1) pa_nil))) (blkOk_by (own := [("name", 5)]) (N := nWo) (sc := defScope sWoI) (by decide +kernel)) (fun _ _ _ _ _ => pg_name (i := 5) scWoI.nd rfl (Or.inl rfl)) (fun _ _ _ _ _ => pts_nil)
    (fun _ _ _ _ _ => pv 5) (fun _ _ _ _ _ => pe_dget (units1 hr) (pv 1) (pv 5) (fun _ _ => rfl))) (pa_cons (pv 3) pa_nil))) rfl, ?_⟩
  rintro D0 σ H ⟨rfl, l1, l2, b, hx, ⟨p1, p2, p3⟩, p4, p5, p6⟩ q
  have hd1 := b d _ W.nd W.hd
  refine ⟨_, rfl, d, _, [z], rfl, .inl hd1, rfl, by show 1 < 64; decide, fun ys p hp hs hpn => ?_⟩
  have ey : ys = [z] := List.perm_singleton.mp hp
  subst ey
  have sp := same_new (o := HO.lst ([z].map V.str)) hpn
  refine ⟨p, rfl, ⟨_, SqL.of upd_same⟩, fun D hD => dc_it (walk_list (K := K) (a := p) (xs := [z].map V.str)) (fun i H' => H' D = some (.dK (([((Sum.inr z : Key), V.ref a)] : List (Key × V)).take i)) ∧ Same (upd H p (.lst ([z].map V.str))) H') ⟨upd_same, same_new hD⟩ (fun i H' _ h => SqL.of (h.2 _ _ upd_same)) ?_ ?_⟩
  · rintro i y H1 H2 hi ⟨h3, sm⟩ ⟨rfl, hy⟩
    have hi0 : i = 0 := by
      have : i < 1 := hi
      omega
    subst hi0
    cases hy
    have hv : valV [((Sum.inr z : Key), V.ref a)] (Sum.inr z) = some (.ref a) := by simp [valV]
    refine ⟨rfl, _, rfl, _, rfl, _, rfl, d, .ref a, rfl, ?_, [], (Sum.inr z : Key), rfl, h3, by decide, ?_, same_mut hD sm⟩
    · rw [← hv]
      exact DGet.k (k := (Sum.inr z : Key)) (sm _ _ (sp _ _ hd1))
    · rw [upd_same]
      rfl
  · rintro HA ⟨hDA, sm⟩
    have sA : Same H HA := sp.trans sm
    refine ⟨_, rfl, fun T dT hT hdT neT => ⟨T, dT, .ref D, .int mo, rfl, upd_same, fun H5 ds ct hk b5 hT5 hd5 nd ncd hct0 hctT hct => ⟨rfl, ?_⟩⟩⟩
    have hB : ∀ {e : Addr}, e ≠ T → upd (upd HA dT (.own T)) T (.ins CT dT []) e = none → HA e = none := fun {e} ne h => by
      rw [upd_ne ne] at h
      by_cases z1 : e = dT
      · rw [z1, upd_same] at h
        cases h
      · rw [upd_ne z1] at h
        exact h
    have up5 : ∀ e o, HA e = some o → H5 e = some o := fun e o h => by
      refine b5 e o (ne_of_none h hT) ?_
      rw [upd_ne (ne_of_none h hT), upd_ne (ne_of_none h hdT)]
      exact h
    have bA : But x H0 HA := b.trans (Same.but x sA)
    have hxA := sA _ _ hx
    have zT := But.none bA hxA hT
    have hx5 := up5 _ _ hxA
    have old : ∀ {e : Addr}, HA e = none → H0 e = none ∧ e ≠ x := fun h => But.none bA hxA h
    have nD : H0 D = none ∧ D ≠ x := by
      refine But.none b hx ?_
      cases e : H D with
      | none => rfl
      | some o =>
        rw [sp _ _ e] at hD
        cases hD
    have b5' : But x H0 H5 := fun e o ne h => up5 e o (bA e o ne h)
    refine ⟨_, rfl, x, CW, dx, _, rfl, hx5, C.cW.cl, C.cW.no _ (by decide +kernel), by show 3 < 1000; decide, q _ _ ⟨rfl, l1, l2, T, dT, D, ct, ds, ?_⟩⟩
    refine ⟨b5'.trans But.upd, upd_same, ⟨p1, p2, ?_⟩, ⟨p4, p5, ?_⟩, ⟨zT.1, zT.2, ?_⟩, ⟨nD.1, nD.2, ?_⟩, hk, fun e he => ?_, nd, ?_, ncd, fun he => ?_, fun he => ?_⟩
    · rw [upd_ne p2]
      exact up5 _ _ (sA _ _ p3)
    · rw [upd_ne p5]
      exact up5 _ _ (sA _ _ p6)
    · rw [upd_ne zT.2]
      exact hT5
    · rw [upd_ne nD.2]
      exact up5 _ _ hDA
    · obtain ⟨h1, h2, h3⟩ := hd5 e he
      have z0 := old (hB h2 h1)
      exact ⟨z0.1, z0.2, by rw [upd_ne z0.2]; exact h3⟩
    · have z0 := old (hB hctT hct0)
      exact ⟨z0.1, z0.2, by rw [upd_ne z0.2]; exact hct⟩
    · obtain ⟨h1, h2, h3⟩ := hd5 D he
      have := hB h2 h1
      rw [hDA] at this
      cases this
    · subst he
      have := hB hctT hct0
      rw [hDA] at this
      cases this
end
end Tx
set_option Elab.async false
set_option linter.all false
set_option maxRecDepth 100000
set_option maxHeartbeats 8000000
namespace Tx
open PySem PySem.Spec PyProof.Rows L2 Cm Ob
structure Ad where
  (T dT tr kn pl tp ow ms mb bh ct m dm e rt : Addr)
/-- a table with one mount, of the tree z -/
structure TAt (H : Hp) (CT CM a : Addr) (z : Str) (mo : Int) (A : Ad) : Prop where
  hT : H A.T = some (.ins CT A.dT (tbF (.ref A.tr) (.int mo) (.ref A.kn) (.ref A.pl) (.ref A.tp) (.ref A.ow) (.ref A.ms) (.ref A.mb) (.ref A.bh) (.ref A.ct)))
  tr : H A.tr = some (.dK [((Sum.inr z : Key), .ref a)])
  kn : H A.kn = some (.dK [((Sum.inl 0 : Key), .ref A.m)])
  pl : H A.pl = some (.dK [((Sum.inl 0 : Key), .ref A.e)])
  tp : H A.tp = some (.dK [((Sum.inl 0 : Key), .int 0)])
  ow : H A.ow = some (.dK [((Sum.inl 0 : Key), .int 0)])
  ms : H A.ms = some (.dK [])
  mb : H A.mb = some (.dK [])
  bh : H A.bh = some (.dK [])
  ct : H A.ct = some (.dK (cntK 1 0 1))
  hm : H A.m = some (.ins CM A.dm (mtF (.int 0) (.int 0) (.str z) (.ref A.rt) .non .non .non .non (.bl false) (.bl false) (.int 0)))
  e : H A.e = some (.dK [])
  rt : H A.rt = some (.tup [])
theorem TAt.same {H H' : Hp} {CT CM a : Addr} {z : Str} {mo : Int} {A : Ad} (t : TAt H CT CM a z mo A) (s : Same H H') : TAt H' CT CM a z mo A :=
  ⟨s _ _ t.hT, s _ _ t.tr, s _ _ t.kn, s _ _ t.pl, s _ _ t.tp, s _ _ t.ow, s _ _ t.ms, s _ _ t.mb, s _ _ t.bh, s _ _ t.ct, s _ _ t.hm, s _ _ t.e, s _ _ t.rt⟩
/-- a world that has begun -/
structure WAt (H : Hp) (CW CT CM a : Addr) (z : Str) (mo : Int) (x dx l1 l2 : Addr) (A : Ad) : Prop where
  hx : H x = some (.ins CW dx (woF (.str z) (.ref l1) (.ref l2) (.ref A.T)))
  h1 : H l1 = some (.lst [])
  h2 : H l2 = some (.lst [])
  t : TAt H CT CM a z mo A
theorem WAt.same {H H' : Hp} {CW CT CM a : Addr} {z : Str} {mo : Int} {x dx l1 l2 : Addr} {A : Ad} (t : WAt H CW CT CM a z mo x dx l1 l2 A) (s : Same H H') : WAt H' CW CT CM a z mo x dx l1 l2 A :=
  ⟨s _ _ t.hx, s _ _ t.h1, s _ _ t.h2, t.t.same s⟩
def spWoI (CW CT CM CR : Addr) : Sp := fun vs H Q _ => ∃ x dx d a z mo, vs = [.ref x, .ref d, .str z, .int mo] ∧ WArg H CW CR x dx d a z mo ∧ ∀ H' l1 l2 A, But x H H' → WAt H' CW CT CM a z mo x dx l1 l2 A → Q .non H'
section
variable {P : Program} {w : World} {K : PySem.W.Frag} {mg : Str → Option Value} {base : Heap} {f : Addr} {cdv : Value} {A : Around} {outer : List Env} {s : Shared} {H0 : Hp} {E : XK} {CW CT CM CR x dx d a : Addr} {z : Str} {mo : Int}
theorem hWo6 (C : WoC P w K mg base CW CT CM CR) (W : WArg H0 CW CR x dx d a z mo) (hr : Room 6 (XWo P w K mg base f cdv A outer s H0 E).A) (R : Hp → Prop) (hR : ∀ H' l1 l2 A, But x H0 H' → WAt H' CW CT CM a z mo x dx l1 l2 A → R H') : HoS (XWo P w K mg base f cdv A outer s H0 E) [stW 6, stW 7, stW 8, stW 9] (GW5 H0 x CW dx d a z mo CT) (fun _ H => R H) := by
  obtain ⟨fN, fdN, mN, FN, bN⟩ := C.newM
  obtain ⟨fX, fdX, mX, FX, bX⟩ := C.next
  have hu := units1 hr
  refine ⟨_, pss_cons (ps_set (i := 4) scWoI.nd rfl (.inl rfl) (pe_meth (pe_fld (pv 0) rfl) C.cT.cl mN FN (hr.mono (by decide)) bN .nil pass0 (pa_cons pe_int (pa_cons (pv 2) (pa_cons (pe_tup pa_nil) pa_nil)))))
    (pss_cons (ps_fld (pv 4) (pe_meth (pe_fld (pv 0) rfl) C.cT.cl mX FX (hr.mono (by decide)) bX .nil pass0 (pa_cons pe_str pa_nil)) rfl)
    (pss_cons (ps_dput hu (pe_fld (pe_fld (pv 0) rfl) rfl) pe_int (pe_fld (pv 4) rfl) rfl)
    (pss_one (ps_dput hu (pe_fld (pe_fld (pv 0) rfl) rfl) pe_int pe_int rfl)))), ?_⟩
  rintro D0 σ H ⟨rfl, l1, l2, T, dT, tr, ct, ds, G⟩ q
  obtain ⟨b, hx, n1, n2, nT, nr, len, nd, nu, nc, cd, rd, rc⟩ := G
  match ds, len with
  | [kn, pl, tp, ow, ms, mb, bh], _ =>
  simp only [List.nodup_cons, List.mem_cons, List.not_mem_nil, or_false, not_or] at nu cd rd
  obtain ⟨⟨k1, k2, k3, k4, k5, k6⟩, ⟨q2, q3, q4, q5, q6⟩, ⟨t3, t4, t5, t6⟩, ⟨o4, o5, o6⟩, ⟨u5, u6⟩, v6, _, _⟩ := nu
  obtain ⟨c0, c1, c2, c3, c4, c5, c6⟩ := cd
  obtain ⟨r0, r1, r2, r3, r4, r5, r6⟩ := rd
  have Nk := nd kn (by simp)
  have Np := nd pl (by simp)
  have Nt := nd tp (by simp)
  have No' := nd ow (by simp)
  have Ns := nd ms (by simp)
  have Nb := nd mb (by simp)
  have Nh := nd bh (by simp)
  refine ⟨_, rfl, x, CW, dx, _, .ref T, rfl, hx, C.cW.cl, C.cW.no _ (by decide +kernel), rfl, T, dT, _, rfl, nT.2.2, rfl, _, rfl, by show 0 ≤ sizeLine; decide, fun rt hrt => ?_⟩
  have s1 := same_new (o := HO.tup []) hrt
  have hrt1 : upd H rt (.tup []) rt = some (.tup []) := upd_same
  have b1 : But x H0 (upd H rt (.tup [])) := b.trans (Same.but x s1)
  have zrt := But.none b hx hrt
  generalize hH1 : upd H rt (.tup []) = H1 at s1 hrt1 b1 ⊢
  have hT1 := s1 _ _ nT.2.2
  have nrtk : ∀ {e o}, H e = some o → e ≠ rt := fun h => ne_of_none h hrt
  refine ⟨T, dT, _, ct, kn, pl, cntK 0 0 0, [], [], 0, .int 0, .str z, .ref rt, rfl, hT1, rfl, rfl, rfl, rfl, s1 _ _ nc.2.2, rfl, by show 3 ≤ 100; decide, s1 _ _ Nk.2.2, by show 0 ≤ 10000; decide, s1 _ _ Np.2.2, by show 0 ≤ 10000; decide, c0, c1, k1, ?_⟩
  intro H6 m dm e b6 hm0 he0 hm6 he6 hct6 hkn6 hpl6 nme
  have hx1 := s1 _ _ hx
  have zm := But.none b1 hx1 hm0
  have ze := But.none b1 hx1 he0
  -- what is not touched
  have nTk : T ≠ kn := ne_of nT.2.2 Nk.2.2 (by intro z; cases z)
  have nTp : T ≠ pl := ne_of nT.2.2 Np.2.2 (by intro z; cases z)
  have nTc : T ≠ ct := ne_of nT.2.2 nc.2.2 (by intro z; cases z)
  have nTt : T ≠ tp := ne_of nT.2.2 Nt.2.2 (by intro z; cases z)
  have nTo : T ≠ ow := ne_of nT.2.2 No'.2.2 (by intro z; cases z)
  have ld : ∀ {l e' : Addr} {kv}, H l = some (.lst []) → H e' = some (.dK kv) → l ≠ e' := fun h1 h2 => ne_of h1 h2 (by intro z; cases z)
  have up6 : ∀ {g : Addr} {o}, H g = some o → g ≠ ct → g ≠ kn → g ≠ pl → H6 g = some o := fun {g o} h a1 a2 a3 => b6 g o a1 a2 a3 (s1 _ _ h)
  have hT6 := up6 nT.2.2 nTc nTk nTp
  have hx6 : H6 x = some _ := up6 hx (Ne.symm nc.2.1) (Ne.symm Nk.2.1) (Ne.symm Np.2.1)
  refine ⟨_, rfl, x, CW, dx, _, .ref T, rfl, hx6, C.cW.cl, C.cW.no _ (by decide +kernel), rfl, T, dT, _, rfl, hT6, rfl, T, dT, _, ct, _, "stem", 0, rfl, hT6, rfl, hct6, rfl, by show 3 ≤ 100; decide, fun H7 b7 hct7 => ?_⟩
  have mg0 : ∀ {g : Addr} {o}, H1 g = some o → g ≠ m := fun h => ne_of_none h hm0
  have me0 : ∀ {g : Addr} {o}, H1 g = some o → g ≠ e := fun h => ne_of_none h he0
  have up7 : ∀ {g : Addr} {o}, H g = some o → g ≠ ct → g ≠ kn → g ≠ pl → H7 g = some o := fun {g o} h a1 a2 a3 => b7 g o a1 (up6 h a1 a2 a3)
  have nmc : m ≠ ct := Ne.symm (mg0 (s1 _ _ nc.2.2))
  have nec : e ≠ ct := Ne.symm (me0 (s1 _ _ nc.2.2))
  have hm7 := b7 m _ nmc hm6
  have he7 := b7 e _ nec he6
  have hkn7 := b7 kn _ (Ne.symm c0) hkn6
  have hpl7 := b7 pl _ (Ne.symm c1) hpl6
  have hT7 := b7 T _ nTc hT6
  have hx7 := b7 x _ (Ne.symm nc.2.1) hx6
  have htp7 := up7 Nt.2.2 (Ne.symm c2) (Ne.symm k2) (Ne.symm q2)
  have how7 := up7 No'.2.2 (Ne.symm c3) (Ne.symm k3) (Ne.symm q3)
  have nmt : m ≠ tp := Ne.symm (mg0 (s1 _ _ Nt.2.2))
  have nmo : m ≠ ow := Ne.symm (mg0 (s1 _ _ No'.2.2))
  have nmk : m ≠ kn := Ne.symm (mg0 (s1 _ _ Nk.2.2))
  have nmp : m ≠ pl := Ne.symm (mg0 (s1 _ _ Np.2.2))
  have nTm : T ≠ m := mg0 hT1
  have nxm : x ≠ m := mg0 hx1
  refine ⟨_, rfl, m, CM, dm, _, rfl, hm7, C.cM.cl, C.cM.no _ (by decide +kernel), by show 11 < 1000; decide, ?_⟩
  -- s8
  have hm8 : ∀ o, upd H7 m o m = some o := fun o => upd_same
  have hx8 : ∀ o, upd H7 m o x = some _ := fun o => by
    rw [upd_ne nxm]
    exact hx7
  have hT8 : ∀ o, upd H7 m o T = some _ := fun o => by
    rw [upd_ne nTm]
    exact hT7
  refine ⟨_, rfl, m, CM, dm, _, .int 0, rfl, upd_same, C.cM.cl, C.cM.no _ (by decide +kernel), rfl, _, rfl, x, CW, dx, _, .ref T, rfl, hx8 _, C.cW.cl, C.cW.no _ (by decide +kernel), rfl, T, CT, dT, _, .ref tp, rfl, hT8 _, C.cT.cl, C.cT.no _ (by decide +kernel), rfl, tp, _, rfl, DPut.k (k := (Sum.inl 0 : Key)) (kvs := []) (by rw [upd_ne (Ne.symm nmt)]; exact htp7) (by decide), ?_⟩
  have nxt : x ≠ tp := Ne.symm Nt.2.1
  refine ⟨_, rfl, x, CW, dx, _, .ref T, rfl, (by rw [upd_ne nxt]; exact hx8 _), C.cW.cl, C.cW.no _ (by decide +kernel), rfl, T, CT, dT, _, .ref ow, rfl, (by rw [upd_ne nTt]; exact hT8 _), C.cT.cl, C.cT.no _ (by decide +kernel), rfl, ow, _, rfl, DPut.k (k := (Sum.inl 0 : Key)) (kvs := []) (by rw [upd_ne (Ne.symm t3), upd_ne (Ne.symm nmo)]; exact how7) (by decide), ?_⟩
  have fin : ∀ {g : Addr} {o} (o1 o2 o3 : HO), H7 g = some o → g ≠ m → g ≠ tp → g ≠ ow → upd (upd (upd H7 m o1) tp o2) ow o3 g = some o := fun {g o} o1 o2 o3 h a1 a2 a3 => by
    rw [upd_ne a3, upd_ne a2, upd_ne a1]
    exact h
  have lst7 : ∀ {l : Addr}, New H0 x H l (.lst []) → ∀ (o1 o2 o3 : HO), upd (upd (upd H7 m o1) tp o2) ow o3 l = some (.lst []) := fun {l} n o1 o2 o3 =>
    fin o1 o2 o3 (up7 n.2.2 (ld n.2.2 nc.2.2) (ld n.2.2 Nk.2.2) (ld n.2.2 Np.2.2)) (mg0 (s1 _ _ n.2.2)) (ld n.2.2 Nt.2.2) (ld n.2.2 No'.2.2)
  have dk7 : ∀ {l : Addr} {kv}, H l = some (.dK kv) → l ≠ ct → l ≠ kn → l ≠ pl → l ≠ tp → l ≠ ow → ∀ (o1 o2 o3 : HO), upd (upd (upd H7 m o1) tp o2) ow o3 l = some (.dK kv) := fun {l kv} h a1 a2 a3 a4 a5 o1 o2 o3 => fin o1 o2 o3 (up7 h a1 a2 a3) (mg0 (s1 _ _ h)) a4 a5
  refine q _ _ (hR _ l1 l2 ⟨T, dT, tr, kn, pl, tp, ow, ms, mb, bh, ct, m, dm, e, rt⟩ ?_ ⟨?_, lst7 n1 _ _ _, lst7 n2 _ _ _, ?_⟩)
  · intro g o ne h
    have ng : ∀ {p' : Addr} {o'}, New H0 x H p' o' → g ≠ p' := fun n z => by
      rw [z, n.1] at h
      cases h
    have nm' : g ≠ m := fun z => by
      rw [z, zm.1] at h
      cases h
    exact fin _ _ _ (up7 (b g o ne h) (ng nc) (ng Nk) (ng Np)) nm' (ng Nt) (ng No')
  · exact fin _ _ _ hx7 nxm nxt (Ne.symm No'.2.1)
  · refine ⟨fin _ _ _ hT7 nTm nTt nTo, dk7 nr.2.2 rc r0 r1 r2 r3 _ _ _, ?_, ?_, ?_, ?_, dk7 Ns.2.2 (Ne.symm c4) (Ne.symm k4) (Ne.symm q4) (Ne.symm t4) (Ne.symm o4) _ _ _, dk7 Nb.2.2 (Ne.symm c5) (Ne.symm k5) (Ne.symm q5) (Ne.symm t5) (Ne.symm o5) _ _ _, dk7 Nh.2.2 (Ne.symm c6) (Ne.symm k6) (Ne.symm q6) (Ne.symm t6) (Ne.symm o6) _ _ _, ?_, ?_, ?_, ?_⟩
    · exact fin _ _ _ hkn7 (Ne.symm nmk) k2 k3
    · exact fin _ _ _ hpl7 (Ne.symm nmp) q2 q3
    · rw [upd_ne t3]
      exact upd_same
    · exact upd_same
    · exact fin _ _ _ hct7 (Ne.symm nmc) c2 c3
    · rw [upd_ne nmo, upd_ne nmt]
      exact upd_same
    · exact fin _ _ _ he7 (Ne.symm nme) (Ne.symm (me0 (s1 _ _ Nt.2.2))) (Ne.symm (me0 (s1 _ _ No'.2.2)))
    · have hr7 : H7 rt = some (.tup []) := b7 rt _ (Ne.symm (nrtk nc.2.2)) (b6 rt _ (Ne.symm (nrtk nc.2.2)) (Ne.symm (nrtk Nk.2.2)) (Ne.symm (nrtk Np.2.2)) hrt1)
      exact fin _ _ _ hr7 (mg0 hrt1) (Ne.symm (nrtk Nt.2.2)) (Ne.symm (nrtk No'.2.2))
end
section
variable {P : Program} {w : World} {K : PySem.W.Frag} {mg : Str → Option Value} {base : Heap} {f : Addr} {fd : FuncData} {CW CT CM CR : Addr}
theorem ok_woI {dvs : List V} (F : FunD K "__init__" "World.__init__" (defArgs sWoI) (defBody sWoI) (defScope sWoI) dvs [] f fd) (B : Bi mg) (C : WoC P w K mg base CW CT CM CR) : FnOk P w K mg base CX0 7 f fd ["self", "trees", "first", "most"] (spWoI CW CT CM CR) := by
  refine F.ok scWoI (fun vs H Q E h => ?_) (fun cdv A outer s H vs Q E hr h => ?_)
  · obtain ⟨x, dx, d, a, z, mo, rfl, _⟩ := h
    rfl
  · obtain ⟨x, dx, d, a, z, mo, rfl, W, q⟩ := h
    have hr' : Room 6 (XWo P w K mg base f cdv A outer s H E).A := hr
    obtain ⟨t, ht, hq⟩ : HoS (XWo P w K mg base f cdv A outer s H E) [stW 0, stW 1, stW 2, stW 3, stW 4, stW 5, stW 6, stW 7, stW 8, stW 9] (Fd (sW0 x d z mo none) H x CW dx [] 0) (fun _ H' => Q .non H') := by
      refine HoS.cons (hWo0 C W hr') (HoS.cons (hWo1 C W hr') (HoS.cons ?_ (HoS.cons (hWo3 C) (HoS.cons (hWo4 C) (HoS.cons (hWo5 C B W hr') (hWo6 C W hr' (fun H' => Q .non H') q))))))
      exact ho_fld (i := 0) (v := .str z) (pv 0) rfl (pv 2) (fun H Q h => ⟨_, rfl, h⟩) C.cW.cl (C.cW.no _ (by decide +kernel)) (by decide) rfl
    rw [bodyWoI]
    exact ⟨t, ht.nox, hq _ _ _ ⟨rfl, But.refl _ _, W.hx, Nat.le_refl _⟩ fun σ' H' z => z⟩
end
end Tx
set_option Elab.async false
set_option linter.all false
set_option maxRecDepth 100000
set_option maxHeartbeats 8000000
namespace Tx
open PySem PySem.Spec PyProof.Rows L2 Cm Ob
/-! ### Mount.kind, Table.children -/
abbrev sMtK : Stmt := inClass sMountC 2
abbrev sChild : Stmt := inClass sTableC 10
theorem scMtK : FnScope ["self", "masters"] ["self", "masters"] (defScope sMtK) := ⟨rfl, rfl, rfl, by decide +kernel, rfl, by decide +kernel, by decide +kernel⟩
theorem scChild : FnScope ["self", "number", "place"] ["self", "number"] (defScope sChild) := ⟨rfl, rfl, rfl, by decide +kernel, rfl, by decide +kernel, by decide +kernel⟩
/-- a mount without group -/
def spMtK (CM : Addr) : Sp := fun vs H Q _ => ∃ m dm n sp tr rt pa pl lo st ms, vs = [.ref m, ms] ∧ H m = some (.ins CM dm (mtF n sp tr rt pa pl .non .non (.bl false) lo st)) ∧ Q (.str "alone") H
def spChild (CT : Addr) : Sp := fun vs H Q _ => ∃ T dT fs pl kp e n, vs = [.ref T, .int n] ∧ H T = some (.ins CT dT fs) ∧ fs.lookup ("placed" : Str) = some (.ref pl) ∧ H pl = some (.dK kp) ∧ valV kp (Sum.inl n : Key) = some (.ref e) ∧ H e = some (.dK []) ∧ ∀ l H', Same H H' → H' l = some (.lst []) → H l = none → Q (.ref l) H'
section
variable {P : Program} {w : World} {K : PySem.W.Frag} {mg : Str → Option Value} {base : Heap} {CM CT : Addr}
theorem ok_mtK {f : Addr} {fd : FuncData} {k : Nat} (F : Fun K "kind" "Mount.kind" sMtK f fd) (c : Cn K CM mtN) : FnOk P w K mg base CX0 (k + 1) f fd ["self", "masters"] (spMtK CM) := by
  refine F.ok scMtK (fun vs H Q E h => ?_) (fun cdv A outer s H vs Q E hr h => ?_)
  · obtain ⟨m, dm, n, sp, tr, rt, pa, pl, lo, st, ms, rfl, _⟩ := h
    rfl
  · obtain ⟨m, dm, n, sp, tr, rt, pa, pl, lo, st, ms, rfl, hm, q⟩ := h
    refine ⟨_, pss_cons (ps_if (pt_cmpR op_notN (pe_fld (pv 0) rfl) pe_non (nomark _)) pss_never pss_nil) (pss_cons (ps_if (pt_cmpR op_notN (pe_fld (pv 0) rfl) pe_non (nomark _)) pss_never pss_nil) (pss_one (ps_ret (pe_ifExp (pt_val (pe_fld (pv 0) rfl)) pe_str pe_str)))), ?_⟩
    refine ⟨_, rfl, m, CM, dm, _, .non, rfl, hm, c.cl, c.no _ (by decide +kernel), rfl, rfl, _, rfl, iteF ?_⟩
    refine ⟨_, rfl, m, CM, dm, _, .non, rfl, hm, c.cl, c.no _ (by decide +kernel), rfl, rfl, _, rfl, iteF ?_⟩
    exact ⟨_, rfl, m, CM, dm, _, .bl false, rfl, hm, c.cl, c.no _ (by decide +kernel), rfl, _, rfl, iteF q⟩
theorem ok_child {f : Addr} {fd : FuncData} {k : Nat} (F : Fun K "children" "Table.children" sChild f fd) (B : Bi mg) (c : Cn K CT tbN) : FnOk P w K mg base CX0 (k + 1) f fd ["self", "number"] (spChild CT) := by
  refine F.ok scChild (fun vs H Q E h => ?_) (fun cdv A outer s H vs Q E hr h => ?_)
  · obtain ⟨T, dT, fs, pl, kp, e, n, rfl, _⟩ := h
    rfl
  · obtain ⟨T, dT, fs, pl, kp, e, n, rfl, hT, hl, hp, hv, he, q⟩ := h
    refine ⟨_, pss_one (ps_ret (pe_lc (own := [("place", 2)]) (g := gName 2) (tt := tYes) (by rfl) scChild.nd (pi_list (pe_callB (call_sortedD rfl) (by rfl) B.sorted boot_sorted (pa_cons (pe_dget (units1 hr) (pe_fld (pv 0) rfl) (pv 1) (fun _ _ => rfl)) pa_nil))) (blkOk_by (own := [("place", 2)]) (N := ["self", "number", "place"]) (sc := defScope sChild) (by decide +kernel)) (fun _ _ _ _ _ => pg_name (i := 2) scChild.nd rfl (Or.inl rfl)) (fun _ _ _ _ _ => pts_nil) (fun _ _ _ _ _ => pe_never))), ?_⟩
    refine ⟨_, rfl, T, CT, dT, fs, .ref pl, rfl, hT, c.cl, c.no _ (by decide +kernel), hl, _, rfl, pl, .ref e, rfl, ?_, e, [], [], rfl, .inl he, rfl, by decide, fun ys p hy hs hp1 => ?_⟩
    · rw [← hv]
      exact DGet.k (k := (Sum.inl n : Key)) hp
    · have ey : ys = [] := List.perm_nil.mp hy
      subst ey
      refine ⟨p, rfl, ⟨_, SqL.of upd_same⟩, fun D hD => lc_list (K := K) (a := p) (xs := []) (fun i H' => H' D = some (.lst []) ∧ Same (upd H p (.lst [])) H') ⟨upd_same, same_new hD⟩ (fun i H' _ h => SqL.of (h.2 _ _ upd_same)) ?_ ?_⟩
      · rintro i x H1 hx
        cases hx
      · rintro H1 ⟨h1, s1⟩
        refine q D H1 ((same_new hp1).trans s1) h1 ?_
        cases e1 : H D with
        | none => rfl
        | some o =>
          rw [same_new hp1 _ _ e1] at hD
          cases hD
end
/-! ### Labels -/
abbrev sLbI : Stmt := inClass sLabelsC 0
abbrev sLbG : Stmt := inClass sLabelsC 1
abbrev sLbL : Stmt := inClass sLabelsC 2
abbrev sLbF : Stmt := inClass sLabelsC 3
theorem scLbI : FnScope ["self", "table"] ["self", "table"] (defScope sLbI) := ⟨rfl, rfl, rfl, by decide +kernel, rfl, by decide +kernel, by decide +kernel⟩
theorem scLbG : FnScope ["self", "group"] ["self", "group"] (defScope sLbG) := ⟨rfl, rfl, rfl, by decide +kernel, rfl, by decide +kernel, by decide +kernel⟩
abbrev nLb : List Str := ["self", "mount", "masters", "group", "master", "stem"]
theorem scLbL : FnScope nLb ["self", "mount"] (defScope sLbL) := ⟨rfl, rfl, rfl, by decide +kernel, rfl, by decide +kernel, by decide +kernel⟩
abbrev nLf : List Str := ["self", "mount", "label", "on", "one"]
theorem scLbF : FnScope nLf ["self", "mount"] (defScope sLbF) := ⟨rfl, rfl, rfl, by decide +kernel, rfl, by decide +kernel, by decide +kernel⟩
def lbN : List Str := ["table", "groups", "stems"]
def pL0 (T : V) (ds : List Addr) : List (Str × V) := match ds with | [] => [("table", T)] | _ => []
def pL1 (T : V) (ds : List Addr) : List (Str × V) := match ds with | [a] => [("table", T), ("groups", .ref a)] | _ => []
def pL2 (T : V) (ds : List Addr) : List (Str × V) := match ds with | [a, b] => [("table", T), ("groups", .ref a), ("stems", .ref b)] | _ => []
theorem pL0_put {T : V} (ds : List Addr) (d : Addr) (h : ds.length = 0) : pL1 T (ds ++ [d]) = putF "groups" (.ref d) (pL0 T ds) := match ds, h with | [], _ => rfl
theorem pL1_put {T : V} (ds : List Addr) (d : Addr) (h : ds.length = 1) : pL2 T (ds ++ [d]) = putF "stems" (.ref d) (pL1 T ds) := match ds, h with | [_], _ => rfl
def lbF (T g st : V) : List (Str × V) := [("table", T), ("groups", g), ("stems", st)]
def spLbI (CL : Addr) : Sp := fun vs H Q _ => ∃ x dx T, vs = [.ref x, T] ∧ H x = some (.ins CL dx []) ∧ ∀ H' g st, But x H H' → H' x = some (.ins CL dx (lbF T (.ref g) (.ref st))) → H' g = some (.dK []) → H' st = some (.dK []) → g ≠ x → st ≠ x → H g = none → H st = none → g ≠ st → Q .non H'
section
variable {P : Program} {w : World} {K : PySem.W.Frag} {mg : Str → Option Value} {base : Heap} {CM CT CL : Addr}
theorem ok_lbI {f : Addr} {fd : FuncData} {k : Nat} (F : Fun K "__init__" "Labels.__init__" sLbI f fd) (c : Cn K CL lbN) : FnOk P w K mg base CX0 (k + 1) f fd ["self", "table"] (spLbI CL) := by
  refine F.ok scLbI (fun vs H Q E h => ?_) (fun cdv A outer s H vs Q E hr h => ?_)
  · obtain ⟨x, dx, T, rfl, _⟩ := h
    rfl
  · obtain ⟨x, dx, T, rfl, hx, q⟩ := h
    obtain ⟨t, ht, hq⟩ : HoS (cxOf CX0 P w K mg base ["self", "table"] "Labels.__init__" (defScope sLbI) f cdv A outer s H E).nox (defBody sLbI) (Fd [some (.ref x), some T] H x CL dx [] 0) (Fe [some (.ref x), some T] H x CL dx 3 2 (pL2 T)) := by
      refine HoS.cons (ho_fld (i := 0) (v := T) (pv 0) rfl (pv 1) (fun H Q h => ⟨_, rfl, h⟩) c.cl (c.no _ (by decide +kernel)) (by decide) rfl) ?_
      refine HoS.conseq (p := Fe [some (.ref x), some T] H x CL dx 1 0 (pL0 T)) (q := Fe [some (.ref x), some T] H x CL dx 3 2 (pL2 T)) ?_ (fun σ H1 z => ⟨[], rfl, z.1, z.2.1, z.2.2.1, z.2.2.2, by simp, by simp⟩) (fun _ _ z => z)
      refine HoS.cons (ho_dnew (i := 0) (k := 0) (pv 0) rfl c.cl (c.no _ (by decide +kernel)) (by decide) pL0_put rfl) ?_
      refine HoS.cons (ho_dnew (i := 0) (k := 1) (pv 0) rfl c.cl (c.no _ (by decide +kernel)) (by decide) pL1_put rfl) ?_
      exact HoS.nil
    refine ⟨t, ht, hq _ _ _ ⟨rfl, But.refl _ _, hx, Nat.le_refl _⟩ ?_⟩
    rintro σ' H' ⟨ds, hk, _, b, hx', _, hd, nd⟩
    match ds, hk with
    | [g, st], _ =>
      have Ng := hd g (by simp)
      have Ns := hd st (by simp)
      refine q H' g st b hx' Ng.2.2 Ns.2.2 Ng.2.1 Ns.2.1 Ng.1 Ns.1 ?_
      simp only [List.nodup_cons, List.mem_cons, List.not_mem_nil, or_false] at nd
      exact nd.1
def spLbG : Sp := fun vs H Q _ => ∃ v, vs = [v, .non] ∧ Q .non H
theorem ok_lbG {f : Addr} {fd : FuncData} {k : Nat} (F : Fun K "group_label" "Labels.group_label" sLbG f fd) : FnOk P w K mg base CX0 (k + 1) f fd ["self", "group"] spLbG := by
  refine F.ok scLbG (fun vs H Q E h => ?_) (fun cdv A outer s H vs Q E hr h => ?_)
  · obtain ⟨v, rfl, _⟩ := h
    rfl
  · obtain ⟨v, rfl, q⟩ := h
    exact ⟨_, pss_one (ps_ret (pe_ifExp (pt_cmpR op_isN (pv 1) pe_non (nomark _)) pe_non pe_never)), _, rfl, rfl, _, rfl, iteT q⟩
end
end Tx
set_option Elab.async false
set_option linter.all false
set_option maxRecDepth 100000
set_option maxHeartbeats 8000000
namespace Tx
open PySem PySem.Spec PyProof.Rows L2 Cm Ob
/-- a def called as a method -/
structure Mt (P : Program) (w : World) (K : PySem.W.Frag) (mg : Str → Option Value) (base : Heap) (k : Nat) (C : Addr) (m : Str) (ps : List Str) (sp : Sp) : Prop where
  ex : ∃ f fd, Meth K C m f ∧ FnOk P w K mg base CX0 k f fd ps sp ∧ Binds K fd ps []
def lbT : List V := [.str "alone", .non, .non, .int 0, .bl false]
/-- labels of a table, none given yet -/
structure LAt (H : Hp) (CL L dL T g st : Addr) : Prop where
  hL : H L = some (.ins CL dL (lbF (.ref T) (.ref g) (.ref st)))
  hs : H st = some (.dK [])
def spLbL (CL CT CM : Addr) : Sp := fun vs H Q _ => ∃ L dL T dT fs ms g st m dm sp tr rt, vs = [.ref L, .ref m] ∧ LAt H CL L dL T g st ∧ H T = some (.ins CT dT fs) ∧ fs.lookup ("masters" : Str) = some ms ∧ H m = some (.ins CM dm (mtF (.int 0) sp tr rt .non .non .non .non (.bl false) (.bl false) (.int 0))) ∧
  ∀ H' p, But st H H' → H' p = some (.tup lbT) → Q (.ref p) H'
section
variable {P : Program} {w : World} {K : PySem.W.Frag} {mg : Str → Option Value} {base : Heap} {CM CT CL : Addr}
theorem ok_lbL {f : Addr} {fd : FuncData} {k : Nat} (F : Fun K "label" "Labels.label" sLbL f fd) (B : Bi mg) (cL : Cn K CL lbN) (cT : Cn K CT tbN) (cM : Cn K CM mtN) (G : Mt P w K mg base 1 CL "group_label" ["self", "group"] spLbG) (Kd : Mt P w K mg base 1 CM "kind" ["self", "masters"] (spMtK CM)) : FnOk P w K mg base CX0 (k + 2) f fd ["self", "mount"] (spLbL CL CT CM) := by
  obtain ⟨fG, fdG, mG, FG, bG⟩ := G
  obtain ⟨fK, fdK, mK, FK, bK⟩ := Kd
  refine F.ok scLbL (fun vs H Q E h => ?_) (fun cdv A outer s H vs Q E hr h => ?_)
  · obtain ⟨L, dL, T, dT, fs, ms, g, st, m, dm, sp, tr, rt, rfl, _⟩ := h
    rfl
  · obtain ⟨L, dL, T, dT, fs, ms, g, st, m, dm, sp, tr, rt, rfl, ⟨hL, hs⟩, hT, hl, hm, q⟩ := h
    have hr1 : Room 1 (cxOf CX0 P w K mg base nLb "Labels.label" (defScope sLbL) f cdv A outer s H E).nox.A := hr.mono (by omega)
    refine ⟨_, pss_cons (ps_set (i := 2) scLbL.nd rfl (.inl rfl) (pe_fld (pe_fld (pv 0) rfl) rfl))
      (pss_cons (ps_set (i := 3) scLbL.nd rfl (.inl rfl) (pe_meth (pv 0) cL.cl mG FG hr1 bG .nil pass0 (pa_cons (pe_fld (pv 1) rfl) pa_nil)))
      (pss_cons (ps_set (i := 4) scLbL.nd rfl (.inl rfl) (pe_meth (pv 0) cL.cl mG FG hr1 bG .nil pass0 (pa_cons (pe_ifExp (pt_cmpR op_isN (pe_fld (pv 1) rfl) pe_non (nomark _)) (pe_fld (pv 1) rfl) pe_never) pa_nil)))
      (pss_cons (ps_set (i := 5) scLbL.nd rfl (.inl rfl) (pe_dsetd (pe_fld (pv 0) rfl) (pe_fld (pv 1) rfl) (pe_callB call_lenD (by rfl) B.len PySem.boot_len (pa_cons (pe_fld (pv 0) rfl) pa_nil)) ⟨rfl, rfl, rfl, rfl⟩))
      (pss_one (ps_ret (pe_tup (pa_cons (pe_meth (pv 1) cM.cl mK FK hr1 bK .nil pass0 (pa_cons (pv 2) pa_nil)) (pa_cons (pv 3) (pa_cons (pv 4) (pa_cons (pv 5) (pa_cons (pe_fld (pv 1) rfl) pa_nil))))))))))), ?_⟩
    have nM : ∀ f ∈ mtN, NoAttr K CM f := cM.no
    have nL : ∀ f ∈ lbN, NoAttr K CL f := cL.no
    refine ⟨_, rfl, L, CL, dL, _, .ref T, rfl, hL, cL.cl, nL _ (by decide +kernel), rfl, T, CT, dT, fs, ms, rfl, hT, cT.cl, cT.no _ (by decide +kernel), hl, ?_⟩
    refine ⟨_, rfl, L, dL, _, rfl, hL, rfl, _, rfl, m, CM, dm, _, .non, rfl, hm, cM.cl, nM _ (by decide +kernel), rfl, _, rfl, ?_⟩
    refine ⟨_, rfl, L, dL, _, rfl, hL, rfl, _, rfl, m, CM, dm, _, .non, rfl, hm, cM.cl, nM _ (by decide +kernel), rfl, rfl, _, rfl, iteT ⟨_, rfl, m, CM, dm, _, .non, rfl, hm, cM.cl, nM _ (by decide +kernel), rfl, _, rfl, ?_⟩⟩
    refine ⟨_, rfl, L, CL, dL, _, .ref st, rfl, hL, cL.cl, nL _ (by decide +kernel), rfl, st, rfl, .inl ⟨[], .inl hs⟩, _, rfl, m, CM, dm, _, .int 0, rfl, hm, cM.cl, nM _ (by decide +kernel), rfl, ?_⟩
    refine ⟨_, rfl, L, CL, dL, _, .ref st, rfl, hL, cL.cl, nL _ (by decide +kernel), rfl, st, [], rfl, hs, [], (Sum.inl 0 : Key), hs, rfl, by decide, (fun v h => by cases h), fun _ => ?_⟩
    have nms : m ≠ st := ne_of hm hs (by intro z; cases z)
    have hm' : ∀ o, upd H st o m = some (.ins CM dm (mtF (.int 0) sp tr rt .non .non .non .non (.bl false) (.bl false) (.int 0))) := fun o => by
      rw [upd_ne nms]
      exact hm
    refine ⟨_, rfl, m, dm, _, rfl, hm' _, rfl, _, rfl, m, dm, _, _, _, _, _, _, _, _, _, rfl, hm' _, _, rfl, _, rfl, _, rfl, _, rfl, m, CM, dm, _, .bl false, rfl, hm' _, cM.cl, nM _ (by decide +kernel), rfl, by show 5 ≤ sizeLine; decide, fun p hp => q _ p (But.upd.trans (But.new hp)) upd_same⟩
def spLbF (CL CT CM : Addr) : Sp := fun vs H Q _ => ∃ L dL g st a z mo A, vs = [.ref L, .ref A.m] ∧ LAt H CL L dL A.T g st ∧ TAt H CT CM a z mo A ∧ A.e ≠ st ∧
  ∀ H' p lb on, But st H H' → H' p = some (.tup [.str z, .ref A.rt, .ref lb, .ref on]) → H' lb = some (.tup lbT) → H' on = some (.tup []) → Q (.ref p) H'
end
end Tx
set_option Elab.async false
set_option linter.all false
set_option maxRecDepth 100000
set_option maxHeartbeats 8000000
namespace Tx
open PySem PySem.Spec PyProof.Rows L2 Cm Ob
section
variable {P : Program} {w : World} {K : PySem.W.Frag} {mg : Str → Option Value} {base : Heap} {CM CT CL CW : Addr}
theorem ok_lbF {f : Addr} {fd : FuncData} {k : Nat} (F : Fun K "form" "Labels.form" sLbF f fd) (B : Bi mg) (cL : Cn K CL lbN) (cT : Cn K CT tbN) (cM : Cn K CM mtN) (La : Mt P w K mg base 2 CL "label" ["self", "mount"] (spLbL CL CT CM)) (Ch : Mt P w K mg base 1 CT "children" ["self", "number"] (spChild CT)) : FnOk P w K mg base CX0 (k + 3) f fd ["self", "mount"] (spLbF CL CT CM) := by
  obtain ⟨fG, fdG, mG, FG, bG⟩ := La
  obtain ⟨fK, fdK, mK, FK, bK⟩ := Ch
  refine F.ok scLbF (fun vs H Q E h => ?_) (fun cdv A outer s H vs Q E hr h => ?_)
  · obtain ⟨L, dL, g, st, a, z, mo, A, rfl, _⟩ := h
    rfl
  · obtain ⟨L, dL, g, st, a, z, mo, A', rfl, hLA, t, es, q⟩ := h
    have hr1 : Room 1 (cxOf CX0 P w K mg base nLf "Labels.form" (defScope sLbF) f cdv A outer s H E).nox.A := hr.mono (by omega)
    have hr2 : Room 2 (cxOf CX0 P w K mg base nLf "Labels.form" (defScope sLbF) f cdv A outer s H E).nox.A := hr.mono (by omega)
    refine ⟨_, pss_cons (ps_set (i := 2) scLbF.nd rfl (.inl rfl) (pe_meth (pv 0) cL.cl mG FG hr2 bG .nil pass0 (pa_cons (pv 1) pa_nil)))
      (pss_cons (ps_setLc (i := 3) (own := [("one", 4)]) (g := gName 4) (tt := tYes) (by rfl) scLbF.nd rfl rfl (sw_true rfl rfl rfl (by decide +kernel)) (pi_list (pe_meth (pe_fld (pv 0) rfl) cT.cl mK FK hr1 bK .nil pass0 (pa_cons (pe_fld (pv 1) rfl) pa_nil))) (blkOk_by (own := [("one", 4)]) (N := nLf) (sc := defScope sLbF) (by decide +kernel)) (fun _ _ _ _ _ => pg_name (i := 4) scLbF.nd rfl (Or.inl rfl)) (fun _ _ _ _ _ => pts_nil) (fun _ _ _ _ _ => pe_never))
      (pss_one (ps_ret (pe_tup (pa_cons (pe_fld (pv 1) rfl) (pa_cons (pe_fld (pv 1) rfl) (pa_cons (pv 2) (pa_cons (pe_callTy call_tuple_of (by rfl) B.tuple (by decide +kernel) (pa_cons (pv 3) pa_nil)) pa_nil)))))))), ?_⟩
    have nM : ∀ f ∈ mtN, NoAttr K CM f := cM.no
    have nL : ∀ f ∈ lbN, NoAttr K CL f := cL.no
    refine ⟨_, rfl, L, dL, _, rfl, hLA.hL, rfl, _, rfl, L, dL, A'.T, A'.dT, _, .ref A'.ms, g, st, A'.m, A'.dm, _, _, _, rfl, hLA, t.hT, rfl, t.hm, fun H1 lb b1 hlb => ?_⟩
    have ns : ∀ {e o}, H e = some o → o ≠ .dK [] → H1 e = some o := fun {e o} h n => b1 e o (ne_of h hLA.hs n) h
    have hL1 := ns hLA.hL (by intro z; cases z)
    have hT1 := ns t.hT (by intro z; cases z)
    have hm1 := ns t.hm (by intro z; cases z)
    have hp1 := ns t.pl (by intro z; cases z)
    -- the empty dict of places may not be the stems
    have he1 := b1 A'.e _ es t.e
    refine ⟨_, rfl, L, CL, dL, _, .ref A'.T, rfl, hL1, cL.cl, nL _ (by decide +kernel), rfl, A'.T, A'.dT, _, rfl, hT1, rfl, _, rfl, A'.m, CM, A'.dm, _, .int 0, rfl, hm1, cM.cl, nM _ (by decide +kernel), rfl, ?_⟩
    refine ⟨A'.T, A'.dT, _, A'.pl, _, A'.e, 0, rfl, hT1, rfl, hp1, rfl, he1, fun l H2 s2 hl _ => ?_⟩
    refine ⟨l, rfl, ⟨_, SqL.of hl⟩, fun D hD => lc_list (K := K) (a := l) (xs := []) (fun i H' => H' D = some (.lst []) ∧ Same H2 H') ⟨upd_same, same_new hD⟩ (fun i H' _ h => SqL.of (h.2 _ _ hl)) ?_ ?_⟩
    · rintro i x H3 hx
      cases hx
    · rintro H3 ⟨h3, s3⟩
      have s13 := s2.trans s3
      refine ⟨_, rfl, A'.m, CM, A'.dm, _, .str z, rfl, s13 _ _ hm1, cM.cl, nM _ (by decide +kernel), rfl, _, rfl, A'.m, CM, A'.dm, _, .ref A'.rt, rfl, s13 _ _ hm1, cM.cl, nM _ (by decide +kernel), rfl, _, rfl, _, rfl, D, [], rfl, .inl ⟨SqL.of h3, fun on hon => ?_⟩⟩
      refine ⟨by show 4 ≤ sizeLine; decide, fun p hp => q _ p lb on ?_ upd_same ?_ ?_⟩
      · exact fun e o n h => same_new hp _ _ (same_new hon _ _ (s13 _ _ (b1 e o n h)))
      · exact same_new hp _ _ (same_new hon _ _ (s13 _ _ hlb))
      · exact same_new hp _ _ upd_same
/-! ### World.spaces, World.shape -/
abbrev sSpaces : Stmt := inClass sWorldC 8
abbrev sShape : Stmt := inClass sWorldC 17
theorem scSpaces : FnScope ["self"] ["self"] (defScope sSpaces) := ⟨rfl, rfl, rfl, by decide +kernel, rfl, by decide +kernel, by decide +kernel⟩
abbrev nSh : List Str := ["self", "labels", "found", "space", "form"]
theorem scShape : FnScope nSh ["self"] (defScope sShape) := ⟨rfl, rfl, rfl, by decide +kernel, rfl, by decide +kernel, by decide +kernel⟩
def spSpaces (CW CT CM : Addr) : Sp := fun vs H Q _ => ∃ x dx l1 l2 a z mo A, vs = [.ref x] ∧ WAt H CW CT CM a z mo x dx l1 l2 A ∧ ∀ p, H p = none → Q (.ref p) (upd H p (.lst [.int 0]))
theorem ok_spaces {f : Addr} {fd : FuncData} {k : Nat} (F : Fun K "spaces" "World.spaces" sSpaces f fd) (B : Bi mg) (cW : Cn K CW woN) (cT : Cn K CT tbN) : FnOk P w K mg base CX0 (k + 1) f fd ["self"] (spSpaces CW CT CM) := by
  refine F.ok scSpaces (fun vs H Q E h => ?_) (fun cdv A outer s H vs Q E hr h => ?_)
  · obtain ⟨x, dx, l1, l2, a, z, mo, A, rfl, _⟩ := h
    rfl
  · obtain ⟨x, dx, l1, l2, a, z, mo, A', rfl, W, q⟩ := h
    refine ⟨_, pss_one (ps_ret (pe_callB (call_sortedDI rfl) (by rfl) B.sorted boot_sorted (pa_cons (pe_fld (pe_fld (pv 0) rfl) rfl) pa_nil))), ?_⟩
    refine ⟨_, rfl, x, CW, dx, _, .ref A'.T, rfl, W.hx, cW.cl, cW.no _ (by decide +kernel), rfl, A'.T, CT, A'.dT, _, .ref A'.tp, rfl, W.t.hT, cT.cl, cT.no _ (by decide +kernel), rfl, A'.tp, _, [0], rfl, .inl W.t.tp, rfl, by decide, fun ys p hy _ hp => ?_⟩
    have ey : ys = [0] := List.perm_singleton.mp hy
    subst ey
    exact q p hp
/-- a shape -/
def ShAt (H : Hp) (v : V) (z : Str) : Prop := ∃ p1 p2 rt lb on, v = .ref p1 ∧ H p1 = some (.tup [.ref p2]) ∧ H p2 = some (.tup [.int 0, .str z, .ref rt, .ref lb, .ref on]) ∧ H rt = some (.tup []) ∧ H lb = some (.tup lbT) ∧ H on = some (.tup [])
theorem ShAt.same {H H' : Hp} {v : V} {z : Str} (h : ShAt H v z) (s : Same H H') : ShAt H' v z := by
  obtain ⟨p1, p2, rt, lb, on, e, h1, h2, h3, h4, h5⟩ := h
  exact ⟨p1, p2, rt, lb, on, e, s _ _ h1, s _ _ h2, s _ _ h3, s _ _ h4, s _ _ h5⟩
def spShape (CW CT CM : Addr) : Sp := fun vs H Q _ => ∃ x dx l1 l2 a z mo A, vs = [.ref x] ∧ WAt H CW CT CM a z mo x dx l1 l2 A ∧ ∀ v H', Same H H' → ShAt H' v z → Q v H'
theorem ok_shape {f : Addr} {fd : FuncData} {k : Nat} (F : Fun K "shape" "World.shape" sShape f fd) (B : Bi mg) (cW : Cn K CW woN) (cT : Cn K CT tbN) (cL : Cn K CL lbN) (gL : mg "Labels" = some (.ref CL)) (MkL : ∃ f fd, Mk K CL f ∧ FnOk P w K mg base CX0 1 f fd ["self", "table"] (spLbI CL) ∧ Binds K fd ["self", "table"] [])
    (Sp : Mt P w K mg base 1 CW "spaces" ["self"] (spSpaces CW CT CM)) (Fo : Mt P w K mg base 3 CL "form" ["self", "mount"] (spLbF CL CT CM)) : FnOk P w K mg base CX0 (k + 4) f fd ["self"] (spShape CW CT CM) := by
  obtain ⟨fI, fdI, MK, FI, bI⟩ := MkL
  obtain ⟨fS, fdS, mS, FS, bS⟩ := Sp
  obtain ⟨fG, fdG, mG, FG, bG⟩ := Fo
  refine F.ok scShape (fun vs H Q E h => ?_) (fun cdv A outer s H vs Q E hr h => ?_)
  · obtain ⟨x, dx, l1, l2, a, z, mo, A, rfl, _⟩ := h
    rfl
  · obtain ⟨x, dx, l1, l2, a, z, mo, A', rfl, W, q⟩ := h
    have hr1 : Room 1 (cxOf CX0 P w K mg base nSh "World.shape" (defScope sShape) f cdv A outer s H E).nox.A := hr.mono (by omega)
    have hr2 : Room 2 (cxOf CX0 P w K mg base nSh "World.shape" (defScope sShape) f cdv A outer s H E).nox.A := hr.mono (by omega)
    have hr3 : Room 3 (cxOf CX0 P w K mg base nSh "World.shape" (defScope sShape) f cdv A outer s H E).nox.A := hr.mono (by omega)
    have hu := units1 hr1
    refine ⟨_, pss_cons (ps_set (i := 1) scShape.nd rfl (.inl rfl) (pe_make MK FI hr2 (by rfl) gL bI .nil pass0 (pa_cons (pe_fld (pv 0) rfl) pa_nil)))
      (pss_cons (ps_set (i := 2) scShape.nd rfl (.inl rfl) (pe_lst pa_nil))
      (pss_cons (ps_for PassesOwn.never rfl (pi_list (pe_meth0 (pv 0) cW.cl mS FS hr1 bS .nil pass0)) (pg_name (i := 3) scShape.nd rfl (Or.inl rfl))
        (pss_cons (ps_set (i := 4) scShape.nd rfl (.inl rfl) (pe_meth (pv 1) cL.cl mG FG hr3 bG .nil pass0 (pa_cons (pe_dget hu (pe_fld (pe_fld (pv 0) rfl) rfl) (pe_dget hu (pe_fld (pe_fld (pv 0) rfl) rfl) (pv 3) (fun _ _ => rfl)) (fun _ _ => rfl)) pa_nil)))
        (pss_one (ps_expr (pe_bm PySem.F.plainAttrs_list PySem.F.slot_list_append PySem.F.type_list_append mt_append (pv 2) (pa_cons (pe_op op_catT (pe_tup (pa_cons (pe_dget hu (pe_fld (pe_fld (pv 0) rfl) rfl) (pv 3) (fun _ _ => rfl)) pa_nil)) (pv 4)) pa_nil))))))
      (pss_one (ps_ret (pe_callTy call_tuple_of (by rfl) B.tuple (by decide +kernel) (pa_cons (pv 2) pa_nil)))))), ?_⟩
    have nW : ∀ f ∈ woN, NoAttr K CW f := cW.no
    have nT : ∀ f ∈ tbN, NoAttr K CT f := cT.no
    refine ⟨_, rfl, x, CW, dx, _, .ref A'.T, rfl, W.hx, cW.cl, nW _ (by decide +kernel), rfl, fun L dL hL hdL neL => ?_⟩
    refine ⟨L, dL, .ref A'.T, rfl, upd_same, fun H1 g st b1 hL1 hg1 hs1 ng ns hg0 hs0 ngs => ⟨rfl, ?_⟩⟩
    have up1 : ∀ e o, H e = some o → H1 e = some o := fun e o h => by
      refine b1 e o (ne_of_none h hL) ?_
      rw [upd_ne (ne_of_none h hL), upd_ne (ne_of_none h hdL)]
      exact h
    have old : ∀ {e : Addr}, e ≠ L → upd (upd H dL (.own L)) L (.ins CL dL []) e = none → H e = none := fun {e} ne h => by
      rw [upd_ne ne] at h
      by_cases z1 : e = dL
      · rw [z1, upd_same] at h
        cases h
      · rw [upd_ne z1] at h
        exact h
    have hsH := old ns hs0
    have W1 : WAt H1 CW CT CM a z mo x dx l1 l2 A' := W.same up1
    have nes : A'.e ≠ st := ne_of_none W.t.e hsH
    refine ⟨by show 0 ≤ sizeLine; decide, fun l hl => ?_⟩
    have sl := same_new (o := HO.lst []) hl
    have hl2 : upd H1 l (.lst []) l = some (.lst []) := upd_same
    have W2 := W1.same sl
    have hL2 := sl _ _ hL1
    have hs2 := sl _ _ hs1
    have hlH : H l = none := by
      cases e : H l with
      | none => rfl
      | some o =>
        rw [up1 _ _ e] at hl
        cases hl
    have s02 : Same H (upd H1 l (.lst [])) := fun e o h => sl _ _ (up1 e o h)
    generalize hH2 : upd H1 l (.lst []) = H2 at sl hl2 W2 hL2 hs2 s02 ⊢
    refine ⟨_, rfl, x, dx, _, rfl, W2.hx, rfl, x, dx, l1, l2, a, z, mo, A', rfl, W2, fun p hp => ?_⟩
    have sp := same_new (o := HO.lst [.int 0]) hp
    have hp3 : upd H2 p (.lst [.int 0]) p = some (.lst [.int 0]) := upd_same
    have npl : p ≠ l := Ne.symm (ne_of_none hl2 hp)
    have nps : p ≠ st := Ne.symm (ne_of_none hs2 hp)
    generalize hH3 : upd H2 p (.lst [.int 0]) = H3 at sp hp3 ⊢
    have W3 := W2.same sp
    refine ⟨p, rfl, ⟨_, SqL.of hp3⟩, for_list (K := K) (a := p) (xs := [.int 0]) (fun i σ H' => (∃ u v, σ = [some (.ref x), some (.ref L), some (.ref l), u, v]) ∧ H' p = some (.lst [.int 0]) ∧ Same H H' ∧ (i = 0 → Same H3 H') ∧ (i = 1 → ∃ p2 rt lb on, H' l = some (.lst [.ref p2]) ∧ H' p2 = some (.tup [.int 0, .str z, .ref rt, .ref lb, .ref on]) ∧ H' rt = some (.tup []) ∧ H' lb = some (.tup lbT) ∧ H' on = some (.tup []))) ⟨⟨_, _, rfl⟩, hp3, s02.trans sp, fun _ => Same.refl _, (fun h => by cases h)⟩ (fun i σ H' _ h => SqL.of h.2.1) ?_ ?_⟩
    · rintro i y σ H4 hy ⟨⟨u, v, rfl⟩, hp4, sH, s0, _⟩
      have hi0 : i = 0 := by
        have := (List.getElem?_eq_some_iff.mp hy).1
        simp only [List.length_cons, List.length_nil] at this
        omega
      subst hi0
      cases hy
      have s4 := s0 rfl
      have W4 := W3.same s4
      have hL4 := s4 _ _ (sp _ _ hL2)
      have hs4 := s4 _ _ (sp _ _ hs2)
      have hl4 := s4 _ _ (sp _ _ hl2)
      refine ⟨_, rfl, L, dL, _, rfl, hL4, rfl, _, rfl, x, CW, dx, _, .ref A'.T, rfl, W4.hx, cW.cl, nW _ (by decide +kernel), rfl, A'.T, CT, A'.dT, _, .ref A'.kn, rfl, W4.t.hT, cT.cl, nT _ (by decide +kernel), rfl, _, rfl, x, CW, dx, _, .ref A'.T, rfl, W4.hx, cW.cl, nW _ (by decide +kernel), rfl, A'.T, CT, A'.dT, _, .ref A'.tp, rfl, W4.t.hT, cT.cl, nT _ (by decide +kernel), rfl, _, rfl, A'.tp, .int 0, rfl, DGet.k (k := (Sum.inl 0 : Key)) W4.t.tp, A'.kn, .ref A'.m, rfl, DGet.k (k := (Sum.inl 0 : Key)) W4.t.kn, ?_⟩
      refine ⟨L, dL, g, st, a, z, mo, A', rfl, ⟨hL4, hs4⟩, W4.t, nes, fun H5 pf lb on b5 hpf hlb hon => ?_⟩
      have up5 : ∀ {e o}, H4 e = some o → o ≠ .dK [] → H5 e = some o := fun {e o} h n => b5 e o (ne_of h hs4 n) h
      have hl5 := up5 hl4 (by intro z; cases z)
      have sH5 : Same H H5 := fun e o h => b5 e o (ne_of_none h hsH) (sH e o h)
      have W5 : WAt H5 CW CT CM a z mo x dx l1 l2 A' := W.same sH5
      have hp5 := b5 p _ nps hp4
      refine ⟨_, rfl, .inl ⟨rfl, _, SqL.of hl5⟩, _, rfl, x, CW, dx, _, .ref A'.T, rfl, W5.hx, cW.cl, nW _ (by decide +kernel), rfl, A'.T, CT, A'.dT, _, .ref A'.ow, rfl, W5.t.hT, cT.cl, nT _ (by decide +kernel), rfl, _, rfl, A'.ow, .int 0, rfl, DGet.k (k := (Sum.inl 0 : Key)) W5.t.ow, by show 1 ≤ sizeLine; decide, fun p1 hp1 => ?_⟩
      have s6 := same_new (o := HO.tup [.int 0]) hp1
      refine ⟨_, rfl, p1, pf, _, _, rfl, rfl, SqT.of upd_same, SqT.of (s6 _ _ hpf), by simp, by show 1 + 4 ≤ sizeLine; decide, (fun h => by cases h), fun _ p2 hp2 => ?_⟩
      have s7 := same_new (o := HO.tup ([.int 0] ++ [.str z, .ref A'.rt, .ref lb, .ref on])) hp2
      have s67 := s6.trans s7
      have hl7 := s67 _ _ hl5
      refine ⟨l, _, _, rfl, rfl, hl7, by decide, ?_⟩
      refine ⟨⟨_, _, rfl⟩, ?_, same_mut hlH (sH5.trans s67), (fun h => by cases h), fun _ => ⟨p2, A'.rt, lb, on, upd_same, ?_, ?_, ?_, ?_⟩⟩
      · rw [upd_ne npl]
        exact s67 _ _ hp5
      · rw [upd_ne (ne_of upd_same hl7 (by intro z; cases z))]
        exact upd_same
      · have h := s67 _ _ W5.t.rt
        rw [upd_ne (ne_of h hl7 (by intro z; cases z))]
        exact h
      · have h := s67 _ _ hlb
        rw [upd_ne (ne_of h hl7 (by intro z; cases z))]
        exact h
      · have h := s67 _ _ hon
        rw [upd_ne (ne_of h hl7 (by intro z; cases z))]
        exact h
    · rintro σ H4 ⟨⟨u, v, rfl⟩, hp4, sH, _, s1⟩
      obtain ⟨p2, rt, lb, on, h1, h2, h3, h4, h5⟩ := s1 rfl
      refine ⟨_, rfl, l, _, rfl, .inl ⟨SqL.of h1, fun p1 hp1 => ?_⟩⟩
      have s5 := same_new (o := HO.tup [.ref p2]) hp1
      exact q _ _ (sH.trans s5) ⟨p1, p2, rt, lb, on, rfl, upd_same, s5 _ _ h2, s5 _ _ h3, s5 _ _ h4, s5 _ _ h5⟩
end
end Tx
set_option Elab.async false
set_option linter.all false
set_option maxRecDepth 100000
set_option maxHeartbeats 4000000
/-! Lists written out, whose entries are told one by one by words of our own; all that was there stays. -/
namespace Wl
open PySem PySem.Spec PyProof.Rows L2 Cm
theorem PE.weak {X : Cx} {e : Expr} {te te' : TE} (h : PE X e te) (i : ∀ σ H Q, te' σ H Q → te σ H Q) : PE X e te' := ⟨fun pins s σ H Q I g => h.run pins s σ H Q I (i σ H Q g)⟩
theorem PA.weak {X : Cx} {es : List Expr} {t t' : TA} (h : PA X es t) (i : ∀ σ H Q, t' σ H Q → t σ H Q) : PA X es t' := ⟨fun pos pins s σ H Q I g => h.run pos pins s σ H Q I (i σ H Q g)⟩
/-- what is told of a state stays true as the heap grows -/
def Stb (G : L2.St → Hp → Prop) : Prop := ∀ σ H H', Same H H' → G σ H → G σ H'
def StbR {α : Type} (R : Hp → V → α → Prop) : Prop := ∀ H H' v w, Same H H' → R H v w → R H' v w
section
variable {α : Type} {G : L2.St → Hp → Prop} {R : Hp → V → α → Prop}
/-- one value, told by w -/
def tE (G : L2.St → Hp → Prop) (R : Hp → V → α → Prop) (w : α) : TE := fun σ H Q => G σ H ∧ ∀ v H', Same H H' → R H' v w → Q v H'
/-- a row of values -/
def tEs (G : L2.St → Hp → Prop) (R : Hp → V → α → Prop) (ws : List α) : TA := fun σ H Q => G σ H ∧ ∀ xs H', Same H H' → Paired (R H') xs ws → Q xs H'
/-- a list of such -/
def LsAt (R : Hp → V → α → Prop) (H : Hp) (v : V) (ws : List α) : Prop := ∃ l xs, v = .ref l ∧ H l = some (.lst xs) ∧ Paired (R H) xs ws
theorem pd_mono {H H' : Hp} (hR : StbR R) (s : Same H H') : ∀ {xs : List V} {ws : List α}, Paired (R H) xs ws → Paired (R H') xs ws
  | _, _, .nil => .nil
  | _, _, .cons a r => .cons (hR _ _ _ _ s a) (pd_mono hR s r)
theorem stbL (hR : StbR R) : StbR (LsAt R) := fun H H' v ws s ⟨l, xs, e, h, p⟩ => ⟨l, xs, e, s _ _ h, pd_mono hR s p⟩
theorem pd_len {H : Hp} {xs : List V} {ws : List α} (p : Paired (R H) xs ws) : xs.length = ws.length := Paired.length p
theorem pd_app {F : V → α → Prop} : ∀ {xs ys : List V} {ws us : List α}, Paired F xs ws → Paired F ys us → Paired F (xs ++ ys) (ws ++ us)
  | _, _, _, _, .nil, b => b
  | _, _, _, _, .cons a r, b => .cons a (pd_app r b)
variable {X : Cx} {e : Expr} {es : List Expr} {w : α} {ws us : List α} {pos p : Pos}
theorem pa_n (G : L2.St → Hp → Prop) (R : Hp → V → α → Prop) : PA X [] (tEs G R []) := PA.weak pa_nil fun σ H Q h => h.2 [] H (fun _ _ e => e) .nil
theorem pa_c (hG : Stb G) (hR : StbR R) (he : PE X e (tE G R w)) (hr : PA X es (tEs G R ws)) (hs : starEach (e :: es) X.env = (false, eval e X.env) :: starEach es X.env := by rfl) : PA X (e :: es) (tEs G R (w :: ws)) :=
  PA.weak (pa_cons he hr hs) fun σ H Q h => ⟨h.1, fun v H1 s1 r1 => ⟨hG _ _ _ s1 h.1, fun xs H2 s2 r2 => h.2 _ _ (fun b o z => s2 b o (s1 b o z)) (.cons (hR _ _ _ _ s2 r1) r2)⟩⟩
theorem pe_l (hR : StbR R) (hz : ws.length ≤ 1000) (h : PA X es (tEs G R ws)) : PE X (.List es pos) (tE G (LsAt R) ws) :=
  PE.weak (pe_lst h) fun σ H Q g => ⟨g.1, fun xs H1 s1 r1 => ⟨by rw [pd_len r1, sizeLine_eq]; omega, fun l hl => g.2 _ _ (fun b o z => same_new hl b o (s1 b o z)) ⟨l, xs, rfl, upd_same, pd_mono hR (same_new hl) r1⟩⟩⟩
theorem pe_cat {a b : Expr} (hG : Stb G) (hR : StbR R) (hz : ws.length + us.length ≤ 1000) (ha : PE X a (tE G (LsAt R) ws)) (hb : PE X b (tE G (LsAt R) us)) : PE X (.BinOp a .Add b pos) (tE G (LsAt R) (ws ++ us)) :=
  PE.weak (pe_op op_cat ha hb) fun σ H Q g => ⟨g.1, fun v1 H1 s1 r1 => ⟨hG _ _ _ s1 g.1, fun v2 H2 s2 r2 => by
    obtain ⟨l1, xs, e1, h1, p1⟩ := stbL hR _ _ _ _ s2 r1
    obtain ⟨l2, ys, e2, h2, p2⟩ := r2
    refine ⟨l1, l2, xs, ys, e1, e2, h1, h2, by rw [pd_len p1, pd_len p2, sizeLine_eq]; omega, fun l hl => g.2 _ _ (fun b o z => same_new hl b o (s2 b o (s1 b o z))) ⟨l, _, rfl, upd_same, pd_mono hR (same_new hl) (pd_app p1 p2)⟩⟩⟩⟩
/-- the list that stands in the name i -/
def Gn (G : L2.St → Hp → Prop) (R : Hp → V → List α → Prop) (i : Nat) (ws : List α) : L2.St → Hp → Prop := fun σ H => G σ H ∧ ∃ v, σ[i]? = some (some v) ∧ R H v ws
theorem stbG {R : Hp → V → List α → Prop} {i : Nat} (hG : Stb G) (hR : StbR R) : Stb (Gn G R i ws) := fun σ H H' s ⟨g, v, e, r⟩ => ⟨hG _ _ _ s g, v, e, hR _ _ _ _ s r⟩
theorem pe_n {β : Type} {G : L2.St → Hp → Prop} {R : Hp → V → β → Prop} {i : Nat} {w : β} {x : Str} (h : PE X (.Name x p) (tVar i)) (hi : ∀ σ H, G σ H → ∃ v, σ[i]? = some (some v) ∧ R H v w) : PE X (.Name x p) (tE G R w) :=
  PE.weak h fun σ H Q g => by
    obtain ⟨v, e, r⟩ := hi σ H g.1
    exact ⟨v, e, g.2 v H (fun _ _ z => z) r⟩
/-- x = e -/
theorem ho_set {β : Type} {G G' : L2.St → Hp → Prop} {R : Hp → V → β → Prop} {i : Nat} {w : β} {x : Str} {pos' : Pos} (hN : X.N.Nodup) (hi : X.N[i]? = some x) (hx : Loc X.env.scope x) (he : PE X e (tE G R w)) (hg : ∀ σ H v H', G σ H → Same H H' → R H' v w → G' (σ.set i (some v)) H')
    (hs : swapsWith e (some (.Name x pos')) pos.line X.env = pure false := by rfl) (hf : X.fn x = true ∨ X.env.scope.names.lookup x = some .local := by first | exact .inl rfl | exact .inr rfl | assumption) : Ho X (.Assign [.Name x pos'] e pos) G G' :=
  ⟨_, ps_set hN hi hx he hs hf, fun D σ H g q => ⟨g, fun v H' s r => q _ _ (hg σ H v H' g s r)⟩⟩
/-- return e -/
theorem ho_ret {β : Type} {R : Hp → V → β → Prop} {w : β} {r : VK} (he : PE X e (tE G R w)) (hr : ∀ σ H v H', G σ H → Same H H' → R H' v w → r v H') : HoR X [.Return (some e) pos] G r :=
  ⟨_, pss_one (ps_ret he), fun D σ H g q => ⟨g, fun v H' s h => q _ _ (hr σ H v H' g s h)⟩⟩
end
end Wl
set_option Elab.async false
set_option linter.all false
set_option maxRecDepth 100000
set_option maxHeartbeats 8000000
namespace Tx
open PySem PySem.Spec PyProof.Rows L2 Cm Ob
/-- o.f as a target -/
def gFld (K : PySem.W.Frag) (ta : TE) (f : Str) : TG := fun y σ H Q => ta σ H fun x H2 => ∃ a C dx fs, x = .ref a ∧ H2 a = some (.ins C dx fs) ∧ Cls K C ∧ NoAttr K C f ∧ fs.length < 1000 ∧ Q σ (upd H2 a (.ins C dx (putF f y fs)))
theorem pg_fld {X : Cx} {o : Expr} {ta : TE} {f : Str} {pos : Pos} (ho : PE X o ta) : PG X (.Attribute o f pos) (gFld X.K ta f) := by
  constructor
  intro pins s σ H v u Q I r h
  rw [assign_Attribute]
  refine wpAny_bind (wpAny_holding (thn (ho.run pins s σ H _ I h) fun ov s1 ⟨x, H1, I1, rx, a, C, dx, fs, ex, ea, c, n, l, q⟩ => ?_))
  subst ex
  cases (show ov = Value.ref a from rx)
  refine wpAny_bind (wpAny_standAt (wpAny_bind (wpAny_holding (setattr_ok I1 ea c n l r fun s3 I3 => ?_))))
  exact wpAny_release ⟨σ, _, I3, q⟩
/-! ### Mount.copied -/
abbrev sMtC : Stmt := inClass sMountC 1
theorem scMtC : FnScope ["self", "other"] ["self"] (defScope sMtC) := ⟨rfl, rfl, rfl, by decide +kernel, rfl, by decide +kernel, by decide +kernel⟩
def stMC (i : Nat) : Stmt := (defBody sMtC).getD i (.Pass ⟨0, 0, 0, 0⟩)
theorem bodyMtC : defBody sMtC = [stMC 0, stMC 1, stMC 2, stMC 3, stMC 4] := rfl
def spMtC (CM : Addr) : Sp := fun vs H Q _ => ∃ m dm n sp tr rt pa pl gr fo ma lo st, vs = [.ref m] ∧ H m = some (.ins CM dm (mtF n sp tr rt pa pl gr fo ma lo st)) ∧ ∀ H' m' dm', Same H H' → H m' = none → H' m' = some (.ins CM dm' (mtF n sp tr rt pa pl gr fo ma lo st)) → Q (.ref m') H'
/-- the copy so far -/
def GM (H0 : Hp) (CM m dm : Addr) (FS fs : List (Str × V)) : L2.St → Hp → Prop := fun σ H => ∃ m' dm', σ = [some (.ref m), some (.ref m')] ∧ H m' = some (.ins CM dm' fs) ∧ H m = some (.ins CM dm FS) ∧ m ≠ m' ∧ Same H0 H ∧ H0 m' = none
section
variable {P : Program} {w : World} {K : PySem.W.Frag} {mg : Str → Option Value} {base : Heap} {CM CT CL CW : Addr} {X : Cx} {H0 : Hp} {m dm : Addr} {FS fs : List (Str × V)} {f g : Str} {v1 v2 : V} {p1 p2 p3 p4 p5 p6 q1 q2 q3 q4 pos : Pos} {k1 k2 : Nat}
theorem ho_pair (c : Cn X.K CM mtN) (hs : X.calm = true) (h0a : PE X (.Name "self" p1) (tVar 0)) (h0b : PE X (.Name "self" p2) (tVar 0)) (h1a : PE X (.Name "other" q1) (tVar 1)) (h1b : PE X (.Name "other" q2) (tVar 1)) (hf : f ∈ mtN) (hg : g ∈ mtN) (l1 : FS.lookup f = some v1) (l2 : FS.lookup g = some v2) (hl : fs.length < 900) (hl2 : (putF f v1 fs).length < 900)
    (b1 : attributeBase (.Name "self" p1) f X.env (eval (.Name "self" p1) X.env) = eval (.Name "self" p1) X.env) (b2 : attributeBase (.Name "self" p2) g X.env (eval (.Name "self" p2) X.env) = eval (.Name "self" p2) X.env)
    (sw1 : swapsWithSole [.Tuple [.Attribute (.Name "other" q1) f q3, .Attribute (.Name "other" q2) g q4] k1 p6] (.Tuple [.Attribute (.Name "self" p1) f p3, .Attribute (.Name "self" p2) g p4] k2 p5) pos.line X.env = pure false)
    (sw2 : swappedStores [.Tuple [.Attribute (.Name "other" q1) f q3, .Attribute (.Name "other" q2) g q4] k1 p6] (.Tuple [.Attribute (.Name "self" p1) f p3, .Attribute (.Name "self" p2) g p4] k2 p5) X.env = pure none) :
    Ho X (.Assign [.Tuple [.Attribute (.Name "other" q1) f q3, .Attribute (.Name "other" q2) g q4] k1 p6] (.Tuple [.Attribute (.Name "self" p1) f p3, .Attribute (.Name "self" p2) g p4] k2 p5) pos) (GM H0 CM m dm FS fs) (GM H0 CM m dm FS (putF g v2 (putF f v1 fs))) := by
  refine ⟨_, ps_asg (pe_tup (pa_cons (pe_fld h0a b1) (pa_cons (pe_fld h0b b2) pa_nil))) (pg_tup hs (pgs_cons (pg_fld h1a) (pgs_cons (pg_fld h1b) pgs_nil))) sw1 sw2, ?_⟩
  rintro D σ H ⟨m', dm', rfl, hm', hm, ne, sm, n0⟩ q
  refine ⟨_, rfl, m, CM, dm, FS, v1, rfl, hm, c.cl, c.no _ hf, l1, _, rfl, m, CM, dm, FS, v2, rfl, hm, c.cl, c.no _ hg, l2, by show 2 ≤ sizeLine; decide, fun p hp => ?_⟩
  refine ⟨p, _, rfl, SqT.of upd_same, rfl, _, _, rfl, _, rfl, m', CM, dm', fs, rfl, (by rw [upd_ne (ne_of_none hm' hp)]; exact hm'), c.cl, c.no _ hf, by omega, _, _, rfl, _, rfl, m', CM, dm', _, rfl, upd_same, c.cl, c.no _ hg, by omega, rfl, q _ _ ⟨m', dm', rfl, upd_same, ?_, ne, ?_, n0⟩⟩
  · rw [upd_ne ne, upd_ne ne, upd_ne (ne_of_none hm hp)]
    exact hm
  · exact same_mut n0 (same_mut n0 (sm.trans (same_new hp)))
theorem ok_mtC {f fI : Addr} {fd fdI : FuncData} {k : Nat} (F : Fun K "copied" "Mount.copied" sMtC f fd) (c : Cn K CM mtN) (MK : Mk K CM fI) (gM : mg "Mount" = some (.ref CM)) (FI : FnOk P w K mg base CX0 1 fI fdI ["self", "number", "space", "tree", "root"] (spMtI CM)) (bI : Binds K fdI ["self", "number", "space", "tree", "root"] []) : FnOk P w K mg base CX0 (k + 3) f fd ["self"] (spMtC CM) := by
  refine F.ok scMtC (fun vs H Q E h => ?_) (fun cdv A outer s H vs Q E hr h => ?_)
  · obtain ⟨m, dm, n, sp, tr, rt, pa, pl, gr, fo, ma, lo, st, rfl, _⟩ := h
    rfl
  · obtain ⟨m, dm, n, sp, tr, rt, pa, pl, gr, fo, ma, lo, st, rfl, hm, q⟩ := h
    have hr2 : Room 2 (cxOf CX0 P w K mg base ["self", "other"] "Mount.copied" (defScope sMtC) f cdv A outer s H E).nox.A := hr.mono (by omega)
    have N : ∀ f ∈ mtN, NoAttr K CM f := c.no
    have h0 : Ho (cxOf CX0 P w K mg base ["self", "other"] "Mount.copied" (defScope sMtC) f cdv A outer s H E).nox (stMC 0) (fun σ H' => σ = [some (.ref m), none] ∧ H' = H) (GM H CM m dm (mtF n sp tr rt pa pl gr fo ma lo st) (mtF n sp tr rt .non .non .non .non (.bl false) (.bl false) .non)) := by
      refine ⟨_, ps_set (i := 1) scMtC.nd rfl (.inl rfl) (pe_make MK FI hr2 (by rfl) gM bI .nil pass0 (pa_cons (pe_fld (pv 0) rfl) (pa_cons (pe_fld (pv 0) rfl) (pa_cons (pe_fld (pv 0) rfl) (pa_cons (pe_fld (pv 0) rfl) pa_nil))))), ?_⟩
      rintro D σ H' ⟨rfl, rfl⟩ q1
      refine ⟨_, rfl, m, CM, dm, _, n, rfl, hm, c.cl, N _ (by decide +kernel), rfl, _, rfl, m, CM, dm, _, sp, rfl, hm, c.cl, N _ (by decide +kernel), rfl, _, rfl, m, CM, dm, _, tr, rfl, hm, c.cl, N _ (by decide +kernel), rfl, _, rfl, m, CM, dm, _, rt, rfl, hm, c.cl, N _ (by decide +kernel), rfl, fun m' dm' hm' hd' ne => ?_⟩
      refine ⟨m', dm', n, sp, tr, rt, rfl, upd_same, fun H2 b2 h2 => ⟨rfl, q1 _ _ ⟨m', dm', rfl, h2, ?_, ne_of_none hm hm', ?_, hm'⟩⟩⟩
      · refine b2 m _ (ne_of_none hm hm') ?_
        rw [upd_ne (ne_of_none hm hm'), upd_ne (ne_of_none hm hd')]
        exact hm
      · intro e o h
        refine b2 e o (ne_of_none h hm') ?_
        rw [upd_ne (ne_of_none h hm'), upd_ne (ne_of_none h hd')]
        exact h
    have h3 : HoR (cxOf CX0 P w K mg base ["self", "other"] "Mount.copied" (defScope sMtC) f cdv A outer s H E).nox [stMC 3, stMC 4] (GM H CM m dm (mtF n sp tr rt pa pl gr fo ma lo st) (mtF n sp tr rt pa pl gr fo (.bl false) (.bl false) .non)) (fun v H' => Q v H') := by
      refine ⟨_, pss_cons (ps_asg (pe_tup (pa_cons (pe_fld (pv 0) rfl) (pa_cons (pe_fld (pv 0) rfl) (pa_cons (pe_fld (pv 0) rfl) pa_nil)))) (pg_tup rfl (pgs_cons (pg_fld (pv 1)) (pgs_cons (pg_fld (pv 1)) (pgs_cons (pg_fld (pv 1)) pgs_nil))))) (pss_one (ps_ret (pv 1))), ?_⟩
      rintro D σ H1 ⟨m', dm', rfl, hm', hm1, ne, sm, n0⟩ q1
      refine ⟨_, rfl, m, CM, dm, _, ma, rfl, hm1, c.cl, N _ (by decide +kernel), rfl, _, rfl, m, CM, dm, _, lo, rfl, hm1, c.cl, N _ (by decide +kernel), rfl, _, rfl, m, CM, dm, _, st, rfl, hm1, c.cl, N _ (by decide +kernel), rfl, by show 3 ≤ sizeLine; decide, fun p hp => ?_⟩
      refine ⟨p, _, rfl, SqT.of upd_same, rfl, _, _, rfl, _, rfl, m', CM, dm', _, rfl, (by rw [upd_ne (ne_of_none hm' hp)]; exact hm'), c.cl, N _ (by decide +kernel), by show 11 < 1000; decide, _, _, rfl, _, rfl, m', CM, dm', _, rfl, upd_same, c.cl, N _ (by decide +kernel), by show 11 < 1000; decide, _, _, rfl, _, rfl, m', CM, dm', _, rfl, upd_same, c.cl, N _ (by decide +kernel), by show 11 < 1000; decide, rfl, _, rfl, q1 _ _ (q _ m' dm' ?_ n0 upd_same)⟩
      exact same_mut n0 (same_mut n0 (same_mut n0 (sm.trans (same_new hp))))
    rw [bodyMtC]
    obtain ⟨t, ht, hq⟩ := HoR.cons h0 (HoR.cons (ho_pair (f := "parent") (g := "place") (v1 := pa) (v2 := pl) c rfl (pv 0) (pv 0) (pv 1) (pv 1) (by decide +kernel) (by decide +kernel) rfl rfl (by show 11 < 900; decide) (by show 11 < 900; decide) rfl rfl rfl rfl)
      (HoR.cons (ho_pair (f := "group") (g := "follows") (v1 := gr) (v2 := fo) c rfl (pv 0) (pv 0) (pv 1) (pv 1) (by decide +kernel) (by decide +kernel) rfl rfl (by show 11 < 900; decide) (by show 11 < 900; decide) rfl rfl rfl rfl) h3))
    exact ⟨t, ht, hq _ _ _ ⟨rfl, rfl⟩ fun v H' z => z⟩
end
end Tx
set_option Elab.async false
set_option linter.all false
set_option maxRecDepth 100000
set_option maxHeartbeats 8000000
namespace Tx
open PySem PySem.Spec PyProof.Rows L2 Cm Ob
/-! ### Table.copied -/
abbrev sTbC : Stmt := inClass sTableC 1
abbrev nTC : List Str := ["self", "other", "number", "mount", "some", "group"]
theorem scTbC : FnScope nTC ["self"] (defScope sTbC) := ⟨rfl, rfl, rfl, by decide +kernel, rfl, by decide +kernel, by decide +kernel⟩
def stTC (i : Nat) : Stmt := (defBody sTbC).getD i (.Pass ⟨0, 0, 0, 0⟩)
theorem bodyTbC : defBody sTbC = [stTC 0, stTC 1, stTC 2, stTC 3, stTC 4, stTC 5, stTC 6, stTC 7] := rfl
def asgV (st : Stmt) : Expr := match st with | .Assign _ v _ => v | _ => .Constant .none 0 ⟨0, 0, 0, 0⟩
def mt0 (z : Str) (rt : Addr) : List (Str × V) := mtF (.int 0) (.int 0) (.str z) (.ref rt) .non .non .non .non (.bl false) (.bl false) (.int 0)
abbrev XTC (P : Program) (w : World) (K : PySem.W.Frag) (mg : Str → Option Value) (base : Heap) (f : Addr) (cdv : Value) (A : Around) (outer : List Env) (s : Shared) (H0 : Hp) (E : XK) : Cx := (cxOf CX0 P w K mg base nTC "Table.copied" (defScope sTbC) f cdv A outer s H0 E).nox
theorem unlock {H H' : Hp} {d : Addr} {od : Obj} {u : HO} (hd : H d = some u) (s : Same (upd H d (.frz od u)) H') : Same H (upd H' d u) := fun b o hb => by
  by_cases e : b = d
  · subst e
    rw [hd] at hb
    cases hb
    exact upd_same
  · rw [upd_ne e]
    exact s _ _ (by rw [upd_ne e]; exact hb)
section
variable {P : Program} {w : World} {K : PySem.W.Frag} {mg : Str → Option Value} {base : Heap} {f : Addr} {cdv : Value} {A : Around} {outer : List Env} {s : Shared} {H0 : Hp} {E : XK} {CM CT : Addr}
/-- {number: mount.copied() for number, mount in self.known.items()} -/
theorem pe_cpK (cT : Cn K CT tbN) (cM : Cn K CM mtN) (Mc : Mt P w K mg base 3 CM "copied" ["self"] (spMtC CM)) (hr : Room 3 (XTC P w K mg base f cdv A outer s H0 E).A) : PE (XTC P w K mg base f cdv A outer s H0 E) (asgV (stTC 1)) (fun σ H Q => ∃ a z mo B, (∃ x, σ = [some (.ref B.T), x, none, none, none, none]) ∧ TAt H CT CM a z mo B ∧
    ∀ D m' dm' H', Same H H' → H D = none → H m' = none → H' D = some (.dK [((Sum.inl 0 : Key), .ref m')]) → H' m' = some (.ins CM dm' (mt0 z B.rt)) → Q (.ref D) H') := by
  obtain ⟨fC, fdC, mC, FC, bC⟩ := Mc
  refine Wl.PE.weak (pe_lock (pe_dc (own := [("number", 2), ("mount", 3)]) (g := gTup K 2 (gCons (gName 2) (gCons (gName 3) gNil))) (tt := tYes) (by rfl) scTbC.nd (pi_items (pe_fld (pv 0) rfl)) (blkOk_by (own := [("number", 2), ("mount", 3)]) (N := nTC) (sc := defScope sTbC) (by decide +kernel))
    (fun _ _ _ _ _ => pg_tup rfl (pgs_cons (pg_name (i := 2) scTbC.nd rfl (Or.inl rfl)) (pgs_cons (pg_name (i := 3) scTbC.nd rfl (Or.inl rfl)) pgs_nil))) (fun _ _ _ _ _ => pts_nil) (fun _ _ _ _ _ => pv 2) (fun _ _ _ _ _ => pe_meth0 (pv 3) cM.cl mC FC hr bC .nil pass0))) ?_
  rintro σ H Q ⟨a, z, mo, B, ⟨x0, rfl⟩, t, q⟩
  refine ⟨B.kn, _, t.kn, trivial, fun od => ?_⟩
  have nTk : B.T ≠ B.kn := ne_of t.hT t.kn (by intro z; cases z)
  have nmk : B.m ≠ B.kn := ne_of t.hm t.kn (by intro z; cases z)
  refine ⟨_, rfl, B.T, CT, B.dT, _, .ref B.kn, rfl, (by rw [upd_ne nTk]; exact t.hT), cT.cl, cT.no _ (by decide +kernel), rfl, B.kn, od, _, rfl, upd_same, fun D hD => dc_it walk_items (fun i H' => Same (upd H B.kn (.frz od (.dK [((Sum.inl 0 : Key), .ref B.m)]))) H' ∧ (i = 0 → H' D = some (.dK [])) ∧ (i = 1 → ∃ m' dm', H' D = some (.dK [((Sum.inl 0 : Key), .ref m')]) ∧ H' m' = some (.ins CM dm' (mt0 z B.rt)) ∧ upd H B.kn (.frz od (.dK [((Sum.inl 0 : Key), .ref B.m)])) m' = none)) ⟨same_new hD, fun _ => upd_same, (fun h => by cases h)⟩ (fun i H' _ h => h.1 _ _ upd_same) ?_ ?_⟩
  · rintro i x H1 H2 hi ⟨sm, h0, _⟩ ⟨T1, xx, yy, rfl, hT, rfl, hx, hy⟩
    have hi0 : i = 0 := by
      have : i < 1 := hi
      omega
    subst hi0
    cases hx
    cases hy
    have sT := same_new (o := HO.tup [kV (Sum.inl 0 : Key), .ref B.m]) hT
    have hm2 := sT _ _ (sm _ _ (show upd H B.kn (.frz od (.dK [((Sum.inl 0 : Key), .ref B.m)])) B.m = some _ by rw [upd_ne nmk]; exact t.hm))
    refine ⟨T1, _, rfl, SqT.of upd_same, rfl, _, _, rfl, _, _, rfl, rfl, rfl, _, rfl, _, rfl, B.m, B.dm, _, rfl, hm2, rfl, B.m, B.dm, _, _, _, _, _, _, _, _, _, _, _, rfl, hm2, fun H3 m' dm' s3 n3 h3 => ?_⟩
    have hD3 := s3 _ _ (sT _ _ (h0 rfl))
    have nmD : m' ≠ D := ne_of h3 hD3 (by intro z; cases z)
    refine ⟨[], (Sum.inl 0 : Key), rfl, hD3, by decide, same_mut hD ((sm.trans sT).trans s3), (fun h => by cases h), fun _ => ⟨m', dm', ?_, ?_, ?_⟩⟩
    · rw [upd_same]
      rfl
    · rw [upd_ne nmD]
      exact h3
    · cases e : upd H B.kn (.frz od (.dK [((Sum.inl 0 : Key), .ref B.m)])) m' with
      | none => rfl
      | some o =>
        rw [sT _ _ (sm _ _ e)] at n3
        cases n3
  · rintro H1 ⟨sm, _, h1⟩
    obtain ⟨m', dm', hD1, hm1, nm⟩ := h1 rfl
    have nDk : D ≠ B.kn := fun e => by
      rw [e, upd_same] at hD
      cases hD
    have nmk' : m' ≠ B.kn := fun e => by
      rw [e, upd_same] at nm
      cases nm
    refine ⟨sm _ _ upd_same, q D m' dm' _ (unlock t.kn sm) ?_ ?_ ?_ ?_⟩
    · rw [upd_ne nDk] at hD
      exact hD
    · rw [upd_ne nmk'] at nm
      exact nm
    · rw [upd_ne nDk]
      exact hD1
    · rw [upd_ne nmk']
      exact hm1
/-- {number: dict(some) for number, some in self.placed.items()} -/
theorem pe_cpP (B' : Bi mg) (cT : Cn K CT tbN) : PE (XTC P w K mg base f cdv A outer s H0 E) (asgV (stTC 2)) (fun σ H Q => ∃ a z mo B, (∃ x, σ = [some (.ref B.T), x, none, none, none, none]) ∧ TAt H CT CM a z mo B ∧
    ∀ D e' H', Same H H' → H' D = some (.dK [((Sum.inl 0 : Key), .ref e')]) → H' e' = some (.dK []) → Q (.ref D) H') := by
  refine Wl.PE.weak (pe_lock (pe_dc (own := [("number", 2), ("some", 4)]) (g := gTup K 2 (gCons (gName 2) (gCons (gName 4) gNil))) (tt := tYes) (by rfl) scTbC.nd (pi_items (pe_fld (pv 0) rfl)) (blkOk_by (own := [("number", 2), ("some", 4)]) (N := nTC) (sc := defScope sTbC) (by decide +kernel))
    (fun _ _ _ _ _ => pg_tup rfl (pgs_cons (pg_name (i := 2) scTbC.nd rfl (Or.inl rfl)) (pgs_cons (pg_name (i := 4) scTbC.nd rfl (Or.inl rfl)) pgs_nil))) (fun _ _ _ _ _ => pts_nil) (fun _ _ _ _ _ => pv 2) (fun _ _ _ _ _ => pe_callTy call_dictD (by rfl) B'.dict (by decide +kernel) (pa_cons (pv 4) pa_nil)))) ?_
  rintro σ H Q ⟨a, z, mo, B, ⟨x0, rfl⟩, t, q⟩
  refine ⟨B.pl, _, t.pl, trivial, fun od => ?_⟩
  have nTk : B.T ≠ B.pl := ne_of t.hT t.pl (by intro z; cases z)
  have nek : B.e ≠ B.pl := ne_of t.e t.pl (by intro z; cases z)
  refine ⟨_, rfl, B.T, CT, B.dT, _, .ref B.pl, rfl, (by rw [upd_ne nTk]; exact t.hT), cT.cl, cT.no _ (by decide +kernel), rfl, B.pl, od, _, rfl, upd_same, fun D hD => dc_it walk_items (fun i H' => Same (upd H B.pl (.frz od (.dK [((Sum.inl 0 : Key), .ref B.e)]))) H' ∧ (i = 0 → H' D = some (.dK [])) ∧ (i = 1 → ∃ e', H' D = some (.dK [((Sum.inl 0 : Key), .ref e')]) ∧ H' e' = some (.dK []) ∧ e' ≠ B.pl)) ⟨same_new hD, fun _ => upd_same, (fun h => by cases h)⟩ (fun i H' _ h => h.1 _ _ upd_same) ?_ ?_⟩
  · rintro i x H1 H2 hi ⟨sm, h0, _⟩ ⟨T1, xx, yy, rfl, hT, rfl, hx, hy⟩
    have hi0 : i = 0 := by
      have : i < 1 := hi
      omega
    subst hi0
    cases hx
    cases hy
    have sT := same_new (o := HO.tup [kV (Sum.inl 0 : Key), .ref B.e]) hT
    have he2 := sT _ _ (sm _ _ (show upd H B.pl (.frz od (.dK [((Sum.inl 0 : Key), .ref B.e)])) B.e = some _ by rw [upd_ne nek]; exact t.e))
    refine ⟨T1, _, rfl, SqT.of upd_same, rfl, _, _, rfl, _, _, rfl, rfl, rfl, _, rfl, _, rfl, B.e, [], rfl, .inl he2, fun e' n3 => ?_⟩
    have s3 := same_new (o := HO.dK []) n3
    have hD2 := sT _ _ (h0 rfl)
    have nmD : e' ≠ D := Ne.symm (ne_of_none hD2 n3)
    refine ⟨[], (Sum.inl 0 : Key), rfl, s3 _ _ hD2, by decide, same_mut hD ((sm.trans sT).trans s3), (fun h => by cases h), fun _ => ⟨e', ?_, ?_, ?_⟩⟩
    · rw [upd_same]
      rfl
    · rw [upd_ne nmD]
      exact upd_same
    · exact Ne.symm (ne_of_none (sT _ _ (sm _ _ upd_same)) n3)
  · rintro H1 ⟨sm, _, h1⟩
    obtain ⟨e', hD1, he1, ne⟩ := h1 rfl
    have nDk : D ≠ B.pl := fun e => by
      rw [e, upd_same] at hD
      cases hD
    refine ⟨sm _ _ upd_same, q D e' _ (unlock t.pl sm) ?_ ?_⟩
    · rw [upd_ne nDk]
      exact hD1
    · rw [upd_ne ne]
      exact he1
/-- a comprehension over an empty dict -/
theorem pe_cpM (cT : Cn K CT tbN) : PE (XTC P w K mg base f cdv A outer s H0 E) (asgV (stTC 4)) (fun σ H Q => ∃ a z mo B, (∃ x, σ = [some (.ref B.T), x, none, none, none, none]) ∧ TAt H CT CM a z mo B ∧ ∀ D H', Same H H' → H' D = some (.dK []) → Q (.ref D) H') := by
  refine Wl.PE.weak (pe_lock (pe_dc (own := [("group", 5), ("some", 4)]) (g := gTup K 2 (gCons (gName 5) (gCons (gName 4) gNil))) (tt := tYes) (by rfl) scTbC.nd (pi_items (pe_fld (pv 0) rfl)) (blkOk_by (own := [("group", 5), ("some", 4)]) (N := nTC) (sc := defScope sTbC) (by decide +kernel))
    (fun _ _ _ _ _ => pg_tup rfl (pgs_cons (pg_name (i := 5) scTbC.nd rfl (Or.inl rfl)) (pgs_cons (pg_name (i := 4) scTbC.nd rfl (Or.inl rfl)) pgs_nil))) (fun _ _ _ _ _ => pts_nil) (fun _ _ _ _ _ => pe_never) (fun _ _ _ _ _ => pe_never))) ?_
  rintro σ H Q ⟨a, z, mo, B, ⟨x0, rfl⟩, t, q⟩
  refine ⟨B.mb, _, t.mb, trivial, fun od => ?_⟩
  have nTk : B.T ≠ B.mb := ne_of t.hT t.mb (by intro z; cases z)
  refine ⟨_, rfl, B.T, CT, B.dT, _, .ref B.mb, rfl, (by rw [upd_ne nTk]; exact t.hT), cT.cl, cT.no _ (by decide +kernel), rfl, B.mb, od, _, rfl, upd_same, fun D hD => dc_it walk_items (fun i H' => Same (upd H B.mb (.frz od (.dK []))) H' ∧ H' D = some (.dK [])) ⟨same_new hD, upd_same⟩ (fun i H' _ h => h.1 _ _ upd_same) ?_ ?_⟩
  · rintro i x H1 H2 hi
    exact absurd hi (Nat.not_lt_zero _)
  · rintro H1 ⟨sm, h1⟩
    have nDk : D ≠ B.mb := fun e => by
      rw [e, upd_same] at hD
      cases hD
    refine ⟨sm _ _ upd_same, q D _ (unlock t.mb sm) ?_⟩
    rw [upd_ne nDk]
    exact h1
theorem pe_cpB (cT : Cn K CT tbN) : PE (XTC P w K mg base f cdv A outer s H0 E) (asgV (stTC 5)) (fun σ H Q => ∃ a z mo B, (∃ x, σ = [some (.ref B.T), x, none, none, none, none]) ∧ TAt H CT CM a z mo B ∧ ∀ D H', Same H H' → H' D = some (.dK []) → Q (.ref D) H') := by
  refine Wl.PE.weak (pe_lock (pe_dc (own := [("group", 5), ("some", 4)]) (g := gTup K 2 (gCons (gName 5) (gCons (gName 4) gNil))) (tt := tYes) (by rfl) scTbC.nd (pi_items (pe_fld (pv 0) rfl)) (blkOk_by (own := [("group", 5), ("some", 4)]) (N := nTC) (sc := defScope sTbC) (by decide +kernel))
    (fun _ _ _ _ _ => pg_tup rfl (pgs_cons (pg_name (i := 5) scTbC.nd rfl (Or.inl rfl)) (pgs_cons (pg_name (i := 4) scTbC.nd rfl (Or.inl rfl)) pgs_nil))) (fun _ _ _ _ _ => pts_nil) (fun _ _ _ _ _ => pe_never) (fun _ _ _ _ _ => pe_never))) ?_
  rintro σ H Q ⟨a, z, mo, B, ⟨x0, rfl⟩, t, q⟩
  refine ⟨B.bh, _, t.bh, trivial, fun od => ?_⟩
  have nTk : B.T ≠ B.bh := ne_of t.hT t.bh (by intro z; cases z)
  refine ⟨_, rfl, B.T, CT, B.dT, _, .ref B.bh, rfl, (by rw [upd_ne nTk]; exact t.hT), cT.cl, cT.no _ (by decide +kernel), rfl, B.bh, od, _, rfl, upd_same, fun D hD => dc_it walk_items (fun i H' => Same (upd H B.bh (.frz od (.dK []))) H' ∧ H' D = some (.dK [])) ⟨same_new hD, upd_same⟩ (fun i H' _ h => h.1 _ _ upd_same) ?_ ?_⟩
  · rintro i x H1 H2 hi
    exact absurd hi (Nat.not_lt_zero _)
  · rintro H1 ⟨sm, h1⟩
    have nDk : D ≠ B.bh := fun e => by
      rw [e, upd_same] at hD
      cases hD
    refine ⟨sm _ _ upd_same, q D _ (unlock t.bh sm) ?_⟩
    rw [upd_ne nDk]
    exact h1
end
end Tx
set_option Elab.async false
set_option linter.all false
set_option maxRecDepth 100000
set_option maxHeartbeats 8000000
namespace Tx
open PySem PySem.Spec PyProof.Rows L2 Cm Ob
/-- what stands in the copy's fields -/
def CK (CM T' : Addr) (z : Str) (rt : Addr) (H : Hp) (v : V) : Prop := ∃ D m' dm', v = .ref D ∧ H D = some (.dK [((Sum.inl 0 : Key), .ref m')]) ∧ H m' = some (.ins CM dm' (mt0 z rt)) ∧ m' ≠ T'
def CP (H : Hp) (v : V) : Prop := ∃ D e', v = .ref D ∧ H D = some (.dK [((Sum.inl 0 : Key), .ref e')]) ∧ H e' = some (.dK [])
def CD (kvs : List (Key × V)) (H : Hp) (v : V) : Prop := ∃ D, v = .ref D ∧ H D = some (.dK kvs)
section
variable {H H' : Hp} {CM CT T' dT' rt : Addr} {z : Str} {v : V} {kvs : List (Key × V)} {fs : List (Str × V)}
theorem CK.but (h : CK CM T' z rt H v) (b : But T' H H') (hT : H T' = some (.ins CT dT' fs)) : CK CM T' z rt H' v := by
  obtain ⟨D, m', dm', e, h1, h2, n⟩ := h
  exact ⟨D, m', dm', e, b _ _ (ne_of h1 hT (by intro z; cases z)) h1, b _ _ n h2, n⟩
theorem CP.but (h : CP H v) (b : But T' H H') (hT : H T' = some (.ins CT dT' fs)) : CP H' v := by
  obtain ⟨D, e', e, h1, h2⟩ := h
  exact ⟨D, e', e, b _ _ (ne_of h1 hT (by intro z; cases z)) h1, b _ _ (ne_of h2 hT (by intro z; cases z)) h2⟩
theorem CD.but (h : CD kvs H v) (b : But T' H H') (hT : H T' = some (.ins CT dT' fs)) : CD kvs H' v := by
  obtain ⟨D, e, h1⟩ := h
  exact ⟨D, e, b _ _ (ne_of h1 hT (by intro z; cases z)) h1⟩
end
/-- the copy after n statements -/
structure TC (H0 : Hp) (CT CM : Addr) (B : Ad) (z : Str) (mo : Int) (n : Nat) (H : Hp) (T' dT' : Addr) (v1 v2 v3 v4 v5 v6 v7 v8 : V) : Prop where
  hT : H T' = some (.ins CT dT' (tbF (.ref B.tr) (.int mo) v1 v2 v3 v4 v5 v6 v7 v8))
  sm : Same H0 H
  n0 : H0 T' = none
  c1 : 1 ≤ n → CK CM T' z B.rt H v1
  c2 : 2 ≤ n → CP H v2
  c3 : 3 ≤ n → CD [((Sum.inl 0 : Key), .int 0)] H v3
  c4 : 3 ≤ n → CD [((Sum.inl 0 : Key), .int 0)] H v4
  c5 : 3 ≤ n → CD [] H v5
  c6 : 4 ≤ n → CD [] H v6
  c7 : 5 ≤ n → CD [] H v7
  c8 : 6 ≤ n → CD (cntK 1 0 1) H v8
def TCs (H0 : Hp) (CT CM : Addr) (B : Ad) (z : Str) (mo : Int) (n : Nat) : L2.St → Hp → Prop := fun σ H => ∃ T' dT' v1 v2 v3 v4 v5 v6 v7 v8, σ = [some (.ref B.T), some (.ref T'), none, none, none, none] ∧ TC H0 CT CM B z mo n H T' dT' v1 v2 v3 v4 v5 v6 v7 v8
section
variable {P : Program} {w : World} {K : PySem.W.Frag} {mg : Str → Option Value} {base : Heap} {f : Addr} {cdv : Value} {A : Around} {outer : List Env} {s : Shared} {H0 : Hp} {E : XK} {CM CT a : Addr} {B : Ad} {z : Str} {mo : Int}
theorem hTC0 (cT : Cn K CT tbN) (gT : mg "Table" = some (.ref CT)) (MkT : ∃ f fd, Mk K CT f ∧ FnOk P w K mg base CX0 1 f fd ["self", "trees", "most"] (spTbI CT) ∧ Binds K fd ["self", "trees", "most"] []) (t : TAt H0 CT CM a z mo B) (hr : Room 2 (XTC P w K mg base f cdv A outer s H0 E).A) :
    Ho (XTC P w K mg base f cdv A outer s H0 E) (stTC 0) (fun σ H => σ = [some (.ref B.T), none, none, none, none, none] ∧ H = H0) (TCs H0 CT CM B z mo 0) := by
  obtain ⟨fI, fdI, MK, FI, bI⟩ := MkT
  refine ⟨_, ps_set (i := 1) scTbC.nd rfl (.inl rfl) (pe_make MK FI hr (by rfl) gT bI .nil pass0 (pa_cons (pe_fld (pv 0) rfl) (pa_cons (pe_fld (pv 0) rfl) pa_nil))), ?_⟩
  rintro D σ H ⟨rfl, rfl⟩ q
  refine ⟨_, rfl, B.T, CT, B.dT, _, .ref B.tr, rfl, t.hT, cT.cl, cT.no _ (by decide +kernel), rfl, _, rfl, B.T, CT, B.dT, _, .int mo, rfl, t.hT, cT.cl, cT.no _ (by decide +kernel), rfl, fun T' dT' hT' hd' ne => ?_⟩
  refine ⟨T', dT', .ref B.tr, .int mo, rfl, upd_same, fun H1 ds ct hk b1 hT1 hd1 nd _ _ _ hct => ⟨rfl, q _ _ ?_⟩⟩
  match ds, hk with
  | [d0, d1, d2, d3, d4, d5, d6], _ =>
    refine ⟨T', dT', .ref d0, .ref d1, .ref d2, .ref d3, .ref d4, .ref d5, .ref d6, .ref ct, rfl, ⟨hT1, ?_, hT', ?_, ?_, ?_, ?_, ?_, ?_, ?_, ?_⟩⟩
    · intro e o h
      refine b1 e o (ne_of_none h hT') ?_
      rw [upd_ne (ne_of_none h hT'), upd_ne (ne_of_none h hd')]
      exact h
    all_goals (intro h; exact absurd h (by decide))
theorem hTC1 (cT : Cn K CT tbN) (cM : Cn K CM mtN) (Mc : Mt P w K mg base 3 CM "copied" ["self"] (spMtC CM)) (t : TAt H0 CT CM a z mo B) (hr : Room 3 (XTC P w K mg base f cdv A outer s H0 E).A) :
    Ho (XTC P w K mg base f cdv A outer s H0 E) (stTC 1) (TCs H0 CT CM B z mo 0) (TCs H0 CT CM B z mo 1) := by
  refine ⟨_, ps_fld (pv 1) (pe_cpK cT cM Mc hr) rfl, ?_⟩
  rintro D0 σ H ⟨T', dT', v1, v2, v3, v4, v5, v6, v7, v8, rfl, C⟩ q
  refine ⟨a, z, mo, B, ⟨_, rfl⟩, t.same C.sm, fun D m' dm' H1 s1 hD0 hm0 hD hm => ?_⟩
  have hT1 := s1 _ _ C.hT
  refine ⟨_, rfl, T', CT, dT', _, rfl, hT1, cT.cl, cT.no _ (by decide +kernel), by show 10 < 1000; decide, q _ _ ⟨T', dT', .ref D, v2, v3, v4, v5, v6, v7, v8, rfl, ?_⟩⟩
  have nmT : m' ≠ T' := Ne.symm (ne_of_none C.hT hm0)
  refine ⟨upd_same, same_mut C.n0 (C.sm.trans s1), C.n0, fun _ => CK.but (CT := CT) ⟨D, m', dm', rfl, hD, hm, nmT⟩ But.upd hT1, ?_, ?_, ?_, ?_, ?_, ?_, ?_⟩
  all_goals (intro h; exact absurd h (by decide))
theorem hTC2 (B' : Bi mg) (cT : Cn K CT tbN) (t : TAt H0 CT CM a z mo B) : Ho (XTC P w K mg base f cdv A outer s H0 E) (stTC 2) (TCs H0 CT CM B z mo 1) (TCs H0 CT CM B z mo 2) := by
  refine ⟨_, ps_fld (pv 1) (pe_cpP (CM := CM) B' cT) rfl, ?_⟩
  rintro D0 σ H ⟨T', dT', v1, v2, v3, v4, v5, v6, v7, v8, rfl, C⟩ q
  refine ⟨a, z, mo, B, ⟨_, rfl⟩, t.same C.sm, fun D e' H1 s1 hD he => ?_⟩
  have hT1 := s1 _ _ C.hT
  have b1 : ∀ o, But T' H (upd H1 T' o) := fun o => (Same.but T' s1).trans But.upd
  refine ⟨_, rfl, T', CT, dT', _, rfl, hT1, cT.cl, cT.no _ (by decide +kernel), by show 10 < 1000; decide, q _ _ ⟨T', dT', v1, .ref D, v3, v4, v5, v6, v7, v8, rfl, ?_⟩⟩
  refine ⟨upd_same, same_mut C.n0 (C.sm.trans s1), C.n0, fun _ => (C.c1 (by decide)).but (b1 _) C.hT, fun _ => CP.but (CT := CT) ⟨D, e', rfl, hD, he⟩ But.upd hT1, ?_, ?_, ?_, ?_, ?_, ?_⟩
  all_goals (intro h; exact absurd h (by decide))
theorem hTC3 (B' : Bi mg) (cT : Cn K CT tbN) (t : TAt H0 CT CM a z mo B) : Ho (XTC P w K mg base f cdv A outer s H0 E) (stTC 3) (TCs H0 CT CM B z mo 2) (TCs H0 CT CM B z mo 3) := by
  refine ⟨_, ps_asg (pe_tup (pa_cons (pe_callTy call_dictD (by rfl) B'.dict (by decide +kernel) (pa_cons (pe_fld (pv 0) rfl) pa_nil)) (pa_cons (pe_callTy call_dictD (by rfl) B'.dict (by decide +kernel) (pa_cons (pe_fld (pv 0) rfl) pa_nil)) (pa_cons (pe_callTy call_dictD (by rfl) B'.dict (by decide +kernel) (pa_cons (pe_fld (pv 0) rfl) pa_nil)) pa_nil)))) (pg_tup rfl (pgs_cons (pg_fld (pv 1)) (pgs_cons (pg_fld (pv 1)) (pgs_cons (pg_fld (pv 1)) pgs_nil)))), ?_⟩
  rintro D0 σ H ⟨T', dT', v1, v2, v3, v4, v5, v6, v7, v8, rfl, C⟩ q
  have tH := t.same C.sm
  refine ⟨_, rfl, B.T, CT, B.dT, _, .ref B.tp, rfl, tH.hT, cT.cl, cT.no _ (by decide +kernel), rfl, B.tp, _, rfl, .inl tH.tp, fun p1 h1 => ?_⟩
  have s1 := same_new (o := HO.dK [((Sum.inl 0 : Key), V.int 0)]) h1
  have t1 := tH.same s1
  refine ⟨_, rfl, B.T, CT, B.dT, _, .ref B.ow, rfl, t1.hT, cT.cl, cT.no _ (by decide +kernel), rfl, B.ow, _, rfl, .inl t1.ow, fun p2 h2 => ?_⟩
  have s2 := same_new (o := HO.dK [((Sum.inl 0 : Key), V.int 0)]) h2
  have t2 := t1.same s2
  refine ⟨_, rfl, B.T, CT, B.dT, _, .ref B.ms, rfl, t2.hT, cT.cl, cT.no _ (by decide +kernel), rfl, B.ms, _, rfl, .inl t2.ms, fun p3 h3 => ?_⟩
  have s3 := same_new (o := HO.dK []) h3
  refine ⟨by show 3 ≤ sizeLine; decide, fun p hp => ?_⟩
  have s4 := same_new (o := HO.tup [V.ref p1, .ref p2, .ref p3]) hp
  have s14 := (s1.trans s2).trans (s3.trans s4)
  have hT4 := s14 _ _ C.hT
  have e1 := s4 _ _ (s3 _ _ (s2 _ _ (upd_same (H := H) (a := p1) (o := HO.dK [((Sum.inl 0 : Key), V.int 0)]))))
  have e2 := s4 _ _ (s3 _ _ (upd_same (H := upd H p1 (HO.dK [((Sum.inl 0 : Key), V.int 0)])) (a := p2) (o := HO.dK [((Sum.inl 0 : Key), V.int 0)])))
  have e3 := s4 _ _ (upd_same (H := upd (upd H p1 (HO.dK [((Sum.inl 0 : Key), V.int 0)])) p2 (HO.dK [((Sum.inl 0 : Key), V.int 0)])) (a := p3) (o := HO.dK []))
  refine ⟨p, _, rfl, SqT.of upd_same, rfl, _, _, rfl, _, rfl, T', CT, dT', _, rfl, hT4, cT.cl, cT.no _ (by decide +kernel), by show 10 < 1000; decide, _, _, rfl, _, rfl, T', CT, dT', _, rfl, upd_same, cT.cl, cT.no _ (by decide +kernel), by show 10 < 1000; decide, _, _, rfl, _, rfl, T', CT, dT', _, rfl, upd_same, cT.cl, cT.no _ (by decide +kernel), by show 10 < 1000; decide, rfl, q _ _ ⟨T', dT', v1, v2, .ref p1, .ref p2, .ref p3, v6, v7, v8, rfl, ?_⟩⟩
  generalize hH4 : upd (upd (upd (upd H p1 (HO.dK [((Sum.inl 0 : Key), V.int 0)])) p2 (HO.dK [((Sum.inl 0 : Key), V.int 0)])) p3 (HO.dK [])) p (HO.tup [V.ref p1, .ref p2, .ref p3]) = H4 at *
  have b4 : ∀ o1 o2 o3, But T' H4 (upd (upd (upd H4 T' o1) T' o2) T' o3) := fun o1 o2 o3 => (But.upd.trans But.upd).trans But.upd
  have b0 : ∀ o1 o2 o3, But T' H (upd (upd (upd H4 T' o1) T' o2) T' o3) := fun o1 o2 o3 => (Same.but T' s14).trans (b4 o1 o2 o3)
  refine ⟨upd_same, same_mut C.n0 (same_mut C.n0 (same_mut C.n0 (C.sm.trans s14))), C.n0, fun _ => (C.c1 (by decide)).but (b0 _ _ _) C.hT, fun _ => (C.c2 (by decide)).but (b0 _ _ _) C.hT, fun _ => CD.but (CT := CT) ⟨p1, rfl, e1⟩ (b4 _ _ _) hT4, fun _ => CD.but (CT := CT) ⟨p2, rfl, e2⟩ (b4 _ _ _) hT4, fun _ => CD.but (CT := CT) ⟨p3, rfl, e3⟩ (b4 _ _ _) hT4, ?_, ?_, ?_⟩
  all_goals (intro h; exact absurd h (by decide))
theorem hTC4 (cT : Cn K CT tbN) (t : TAt H0 CT CM a z mo B) : Ho (XTC P w K mg base f cdv A outer s H0 E) (stTC 4) (TCs H0 CT CM B z mo 3) (TCs H0 CT CM B z mo 4) := by
  refine ⟨_, ps_fld (pv 1) (pe_cpM (CM := CM) cT) rfl, ?_⟩
  rintro D0 σ H ⟨T', dT', v1, v2, v3, v4, v5, v6, v7, v8, rfl, C⟩ q
  refine ⟨a, z, mo, B, ⟨_, rfl⟩, t.same C.sm, fun D H1 s1 hD => ?_⟩
  have hT1 := s1 _ _ C.hT
  have b1 : ∀ o, But T' H (upd H1 T' o) := fun o => (Same.but T' s1).trans But.upd
  refine ⟨_, rfl, T', CT, dT', _, rfl, hT1, cT.cl, cT.no _ (by decide +kernel), by show 10 < 1000; decide, q _ _ ⟨T', dT', v1, v2, v3, v4, v5, .ref D, v7, v8, rfl, ?_⟩⟩
  refine ⟨upd_same, same_mut C.n0 (C.sm.trans s1), C.n0, fun _ => (C.c1 (by decide)).but (b1 _) C.hT, fun _ => (C.c2 (by decide)).but (b1 _) C.hT, fun _ => (C.c3 (by decide)).but (b1 _) C.hT, fun _ => (C.c4 (by decide)).but (b1 _) C.hT, fun _ => (C.c5 (by decide)).but (b1 _) C.hT, fun _ => CD.but (CT := CT) ⟨D, rfl, hD⟩ But.upd hT1, ?_, ?_⟩
  all_goals (intro h; exact absurd h (by decide))
theorem hTC5 (cT : Cn K CT tbN) (t : TAt H0 CT CM a z mo B) : Ho (XTC P w K mg base f cdv A outer s H0 E) (stTC 5) (TCs H0 CT CM B z mo 4) (TCs H0 CT CM B z mo 5) := by
  refine ⟨_, ps_fld (pv 1) (pe_cpB (CM := CM) cT) rfl, ?_⟩
  rintro D0 σ H ⟨T', dT', v1, v2, v3, v4, v5, v6, v7, v8, rfl, C⟩ q
  refine ⟨a, z, mo, B, ⟨_, rfl⟩, t.same C.sm, fun D H1 s1 hD => ?_⟩
  have hT1 := s1 _ _ C.hT
  have b1 : ∀ o, But T' H (upd H1 T' o) := fun o => (Same.but T' s1).trans But.upd
  refine ⟨_, rfl, T', CT, dT', _, rfl, hT1, cT.cl, cT.no _ (by decide +kernel), by show 10 < 1000; decide, q _ _ ⟨T', dT', v1, v2, v3, v4, v5, v6, .ref D, v8, rfl, ?_⟩⟩
  refine ⟨upd_same, same_mut C.n0 (C.sm.trans s1), C.n0, fun _ => (C.c1 (by decide)).but (b1 _) C.hT, fun _ => (C.c2 (by decide)).but (b1 _) C.hT, fun _ => (C.c3 (by decide)).but (b1 _) C.hT, fun _ => (C.c4 (by decide)).but (b1 _) C.hT, fun _ => (C.c5 (by decide)).but (b1 _) C.hT, fun _ => (C.c6 (by decide)).but (b1 _) C.hT, fun _ => CD.but (CT := CT) ⟨D, rfl, hD⟩ But.upd hT1, ?_⟩
  all_goals (intro h; exact absurd h (by decide))
theorem hTC6 (B' : Bi mg) (cT : Cn K CT tbN) (t : TAt H0 CT CM a z mo B) : Ho (XTC P w K mg base f cdv A outer s H0 E) (stTC 6) (TCs H0 CT CM B z mo 5) (TCs H0 CT CM B z mo 6) := by
  refine ⟨_, ps_fld (pv 1) (pe_callTy call_dictD (by rfl) B'.dict (by decide +kernel) (pa_cons (pe_fld (pv 0) rfl) pa_nil)) rfl, ?_⟩
  rintro D0 σ H ⟨T', dT', v1, v2, v3, v4, v5, v6, v7, v8, rfl, C⟩ q
  have tH := t.same C.sm
  refine ⟨_, rfl, B.T, CT, B.dT, _, .ref B.ct, rfl, tH.hT, cT.cl, cT.no _ (by decide +kernel), rfl, B.ct, _, rfl, .inl tH.ct, fun D hD => ?_⟩
  have s1 := same_new (o := HO.dK (cntK 1 0 1)) hD
  have hT1 := s1 _ _ C.hT
  have b1 : ∀ o, But T' H (upd (upd H D (.dK (cntK 1 0 1))) T' o) := fun o => (Same.but T' s1).trans But.upd
  refine ⟨_, rfl, T', CT, dT', _, rfl, hT1, cT.cl, cT.no _ (by decide +kernel), by show 10 < 1000; decide, q _ _ ⟨T', dT', v1, v2, v3, v4, v5, v6, v7, .ref D, rfl, ?_⟩⟩
  exact ⟨upd_same, same_mut C.n0 (C.sm.trans s1), C.n0, fun _ => (C.c1 (by decide)).but (b1 _) C.hT, fun _ => (C.c2 (by decide)).but (b1 _) C.hT, fun _ => (C.c3 (by decide)).but (b1 _) C.hT, fun _ => (C.c4 (by decide)).but (b1 _) C.hT, fun _ => (C.c5 (by decide)).but (b1 _) C.hT, fun _ => (C.c6 (by decide)).but (b1 _) C.hT, fun _ => (C.c7 (by decide)).but (b1 _) C.hT, fun _ => CD.but (CT := CT) ⟨D, rfl, upd_same⟩ But.upd hT1⟩
end
def spTbC (CT CM : Addr) : Sp := fun vs H Q _ => ∃ a z mo B, vs = [.ref B.T] ∧ TAt H CT CM a z mo B ∧ ∀ H' B', Same H H' → TAt H' CT CM a z mo B' → H B'.T = none → Q (.ref B'.T) H'
section
variable {P : Program} {w : World} {K : PySem.W.Frag} {mg : Str → Option Value} {base : Heap} {f : Addr} {fd : FuncData} {CM CT : Addr}
theorem ok_tbC {k : Nat} (F : Fun K "copied" "Table.copied" sTbC f fd) (B' : Bi mg) (cT : Cn K CT tbN) (cM : Cn K CM mtN) (gT : mg "Table" = some (.ref CT)) (MkT : ∃ f fd, Mk K CT f ∧ FnOk P w K mg base CX0 1 f fd ["self", "trees", "most"] (spTbI CT) ∧ Binds K fd ["self", "trees", "most"] []) (Mc : Mt P w K mg base 3 CM "copied" ["self"] (spMtC CM)) :
    FnOk P w K mg base CX0 (k + 4) f fd ["self"] (spTbC CT CM) := by
  refine F.ok scTbC (fun vs H Q E h => ?_) (fun cdv A outer s H vs Q E hr h => ?_)
  · obtain ⟨a, z, mo, B, rfl, _⟩ := h
    rfl
  · obtain ⟨a, z, mo, B, rfl, t, q⟩ := h
    have hr3 : Room 3 (XTC P w K mg base f cdv A outer s H E).A := Room.mono (show Room (k + 3) (XTC P w K mg base f cdv A outer s H E).A from hr) (by omega)
    have last : HoR (XTC P w K mg base f cdv A outer s H E) [stTC 7] (TCs H CT CM B z mo 6) (fun v H' => Q v H') := by
      refine ⟨_, pss_one (ps_ret (pv 1)), ?_⟩
      rintro D σ H1 ⟨T', dT', v1, v2, v3, v4, v5, v6, v7, v8, rfl, C⟩ q1
      obtain ⟨k1, m', dm', rfl, h1, h1', _⟩ := C.c1 (by decide)
      obtain ⟨k2, e', rfl, h2, h2'⟩ := C.c2 (by decide)
      obtain ⟨k3, rfl, h3⟩ := C.c3 (by decide)
      obtain ⟨k4, rfl, h4⟩ := C.c4 (by decide)
      obtain ⟨k5, rfl, h5⟩ := C.c5 (by decide)
      obtain ⟨k6, rfl, h6⟩ := C.c6 (by decide)
      obtain ⟨k7, rfl, h7⟩ := C.c7 (by decide)
      obtain ⟨k8, rfl, h8⟩ := C.c8 (by decide)
      exact ⟨_, rfl, q1 _ _ (q H1 ⟨T', dT', B.tr, k1, k2, k3, k4, k5, k6, k7, k8, m', dm', e', B.rt⟩ C.sm ⟨C.hT, C.sm _ _ t.tr, h1, h2, h3, h4, h5, h6, h7, h8, h1', h2', C.sm _ _ t.rt⟩ C.n0)⟩
    rw [bodyTbC]
    obtain ⟨tt, ht, hq⟩ := HoR.cons (hTC0 cT gT MkT t (hr3.mono (by decide))) (HoR.cons (hTC1 cT cM Mc t hr3) (HoR.cons (hTC2 B' cT t) (HoR.cons (hTC3 B' cT t) (HoR.cons (hTC4 cT t) (HoR.cons (hTC5 cT t) (HoR.cons (hTC6 B' cT t) last))))))
    exact ⟨tt, ht, hq _ _ _ ⟨rfl, rfl⟩ fun v H' z => z⟩
end
end Tx
set_option Elab.async false
set_option linter.all false
set_option maxRecDepth 100000
set_option maxHeartbeats 4000000
/-! d |= e, both dicts with texts or whole numbers as keys; a call of what an expression gives -/
namespace Io
open PySem PySem.Spec PyProof.Rows L2
section
variable {prog : Program} {w : World} {K : Type} [DecidableEq K]
theorem meets_ior (knd : KeyKind prog w K) (d o : Addr) (hdo : d ≠ o) (hoS : (o == sysModules) = false) :
    MeetsIn prog w (Builtin.«dict.__ior__» ⟨[.ref d, .ref o], []⟩) (fun _ R s => ∃ kvs more, s.heap.DictOf knd d kvs ∧ s.heap.DictOf knd o more ∧ kvs.length + more.length ≤ sizeLine ∧
      ∀ h', h'.DictOf knd d (merged kvs more) → h'.DictOf knd o more → Heap.SameBut d s.heap h' → R (.ok (.ret (.ref d))) { s with heap := h' }) :=
  .of_wp fun A R s ⟨kvs, more, hd, ho, hsz, h⟩ => by
    unfold Builtin.«dict.__ior__» Builtin.Dict.dictSlotArgs
    refine wpAny_bind (wpAny_bind (wpAny_notOrdered_dict hd.typeIs ?_))
    refine wpAny_bind ?_
    show wpAny _ _ (pure (Value.ref d, [Value.ref o])) _ _ s
    refine wpAny_pure (wpAny_pure (wpAny_bind (wpAny_pure ?_)))
    show wpAny _ _ (Builtin.Dict.updateFrom "dict.__ior__" d (.ref o) [] (.ref d)) _ _ s
    unfold Builtin.Dict.updateFrom
    refine wpAny_bind (wpAny_typeOf ho.typeIs ?_)
    rw [if_neg (by decide)]
    refine wpAny_bind ?_
    unfold Builtin.Dict.merge
    refine wpAny_bind ?_
    unfold Builtin.Dict.readDirectly
    refine wpAny_bind (wpAny_isInstance ho.typeIs isSubtype_dict_dict ?_)
    simp only [Bool.not_true, Bool.false_eq_true, if_false]
    refine wpAny_bind (wpAny_specialOf ho.typeIs F.slot_dict_iter.lookup (wpAny_pure ?_))
    simp only [beq_self_eq_true, if_true]
    refine wpAny_bind (wpAny_pure ?_)
    refine wpAny_mergeDict (hsz := hsz) hdo hoS hd ho fun h' hd' ho' hs' => ?_
    show wpAny _ _ (Builtin.Dict.addKeywords d [] >>= _) _ _ _
    exact wpAny_bind (wpAny_pure (wpAny_pure ⟨.ref d, rfl, h h' hd' ho' hs'⟩))
end
theorem ior_road {M : Model} {A : Around} {E : Value → Shared → Prop} {s : Shared} {a b : Value} {Q : Value → Shared → Prop} (ha : s.TypeIs a "dict") (hc : wpAny M A (call (.builtin "dict.__ior__") [a, b]) (fun v s' => v ≠ .notImplemented ∧ Q v s') E s) : wpAny M A (inplaceOp .BitOr a b) Q E s := by
  have hsl : typeLookup (.type "dict") (dunderI "or") = pure (some (.builtin "dict.__ior__")) := PySem.F.slot_dict_ior.lookup
  have hsq : isSeqSlot (some (.builtin "dict.__ior__")) = false := by decide +kernel
  have hfi : fillsInplaceSlot (.type "dict") "or" (Operator.BitOr == .Add) = pure true := by
    unfold fillsInplaceSlot
    show (typeLookup (.type "dict") (dunderI "or") >>= fun fi => pure (fi.isSome && !isSeqSlot fi)) = pure true
    rw [hsl]
    show (pure (true && !isSeqSlot (some (.builtin "dict.__ior__"))) : Sem Bool) = pure true
    rw [hsq] <;> rfl
  unfold inplaceOp
  refine wpAny_holding ?_
  refine wpAny_bind (wpAny_typeOf ha (wpAny_bind (wpAny_of_eq hfi ?_)))
  show wpAny M A (if true = true then _ else _) Q E s
  rw [if_pos rfl]
  refine wpAny_bind (wpAny_tryMethod_slot ha PySem.F.slot_dict_ior (wpAny_mono hc (fun v s' h' => ⟨h'.1, ?_⟩) fun _ _ h' => h'))
  wp_walk
  exact h'.2
/-- d |= e -/
def rIor : R2 := fun x y H Q => ∃ d e kvs more, x = .ref d ∧ y = .ref e ∧ H d = some (.dK kvs) ∧ H e = some (.dK more) ∧ d ≠ e ∧ kvs.length + more.length ≤ 1000 ∧ Q (.ref d) (upd H d (.dK (mergeK kvs more)))
theorem iop_ior {X : Cx} : OpR X (inplaceOp .BitOr) rIor := by
  intro pins s σ H x y v u Q I rx ry h
  obtain ⟨d, e, kvs, more, rfl, rfl, hd, he, ne, hz, q⟩ := h
  cases rx
  cases ry
  obtain ⟨z1, lo1, vs, rel, dd⟩ := dk_of I.hok hd
  obtain ⟨z2, lo2, rs, rel2, de⟩ := dk_of I.hok he
  have hsz : vs.length + rs.length ≤ sizeLine := by
    rw [← rel.length, ← rel2.length, sizeLine_eq]
    omega
  refine ior_road dd.typeIs (call_meetsIn PySem.F.slot_dict_ior dd.typeIs PySem.F.entry_dict_ior (PySem.F.args_dict_ior_2 _ _) (meets_ior (mixKind X.prog X.w) d e ne lo2) ⟨vs, rs, dd, de, hsz, fun h' hd' he' hs' => ?_⟩)
  have hl : (mergeK kvs more).length ≤ sizeLine := by
    refine Nat.le_trans (length_mergeK more kvs) ?_
    rw [sizeLine_eq]
    omega
  have hg : ∃ q, h'.get? d = some q := by
    obtain ⟨o, _, _, ho, _⟩ := hd'
    exact ⟨o, ho⟩
  exact ⟨(fun z => nomatch z), .ref d, _, d_write (t' := s.toks) I (by rw [hd]; exact trivial) hs' hg (dk_new hl lo1 (KV.merge rel2 rel) hd'), rfl, q⟩
/-- a call of what an expression gives: a def of the top -/
def tCallE (f : Addr) (sp : Sp) (E : XK) (tf : TE) (t : TA) : TE := fun σ H Q => tf σ H fun x H1 => x = .ref f ∧ t σ H1 fun vs H2 => sp vs H2 Q E
theorem pe_callE {X : Cx} {CX : CXT} {k : Nat} {f : Addr} {fd : FuncData} {ps : List Str} {sp : Sp} {E : XK} {g e : Expr} {es : List Expr} {tf : TE} {t : TA} {pos : Pos} (hf : PE X g tf) (F : FnOk X.prog X.w X.K X.mg X.base CX k f fd ps sp) (hr : Room k X.A) (hk : PySem.W.keepIn X.K (.ref f) = true) (hb : Binds X.K fd ps []) (hx : Passes CX X E) (ha : PA X (e :: es) t)
    (ht : eval (.Call g (e :: es) [] pos) X.env = (do callWith pos (← eval g X.env) [] (backTo pos (starEach (e :: es) X.env)) (backToKw pos (keywordEach [] X.env))) := by rfl)
    (he : starEach (e :: es) X.env = (false, eval e X.env) :: starEach es X.env := by rfl) (hpl : (backTo pos (starEach es X.env)).any (·.1) = false := by rfl) : PE X (.Call g (e :: es) [] pos) (tCallE f sp E tf t) := by
  constructor
  intro pins s σ H Q I h
  refine Call_ (thn (hf.run pins s σ H _ I h) fun u s1 ⟨x, H1, I1, rx, ex, q⟩ => ?_) ht
  subst ex
  cases (show u = Value.ref f from rx)
  refine PySem.W.callWith_K (h₀ := X.base) I.ok.mod.kin hk (thn (ha.run pos pins s1 σ H1 _ I1 q) fun us s2 ⟨vs, H2, I2, r, q2⟩ => ⟨I2.kIn, ?_⟩) he hpl
  have hl : us.length = ps.length := by
    rw [← r.length]
    exact F.len _ _ _ _ q2
  have b := hb s2 us I2.kIn (by rw [List.append_nil]; exact hl)
  rw [List.append_nil] at b
  refine wpAny_call (codeAny_mono (F.run X.A X.stack s2 H2 ⟨us, []⟩ us vs Q E hr I2.env0 b r q2) ?_)
  rintro (er | fl) s' z
  · exact hx pins σ _ _ er s' I2 z
  · match fl, z with
    | .ret u', z => exact I2.after z
end Io
set_option Elab.async false
set_option linter.all false
set_option maxRecDepth 100000
set_option maxHeartbeats 8000000
namespace Tx
open PySem PySem.Spec PyProof.Rows L2 Cm Ob
def sNo : TS := fun _ _ _ => False
theorem pss_no {X : Cx} {sts : List Stmt} : PSs X sts sNo := ⟨fun _ _ _ _ _ _ h => h.elim⟩
/-- an error of the text -/
structure Ec (K : PySem.W.Frag) (mg : Str → Option Value) (nm : Str) (C : Addr) : Prop where
  g : mg nm = some (.ref C)
  x : PySem.W.excIn K C [.type "ValueError", .type "Exception", .type "BaseException", .type "object"] "ValueError.__new__" = true
  k : PySem.W.keepIn K (.ref C) = true
  b : PySem.W.subIn K (.ref C) (.type "BaseException") = some true
  t : PySem.W.typeIn K (.ref C) = some (.type "type")
theorem scSure : FnScope ["thing"] ["thing"] (defScope sSureDeed) := ⟨rfl, rfl, rfl, by decide +kernel, rfl, by decide +kernel, by decide +kernel⟩
abbrev sSureS : Stmt := inClass sTableC 4
theorem scSureS : FnScope ["self", "space"] ["self", "space"] (defScope sSureS) := ⟨rfl, rfl, rfl, by decide +kernel, rfl, by decide +kernel, by decide +kernel⟩
abbrev nDM : List Str := ["table", "space", "tree", "path", "receivers", "top", "carrier", "place"]
theorem scDM : FnScope nDM ["table", "space", "tree", "path"] (defScope sDoMount) := ⟨rfl, rfl, rfl, by decide +kernel, rfl, by decide +kernel, by decide +kernel⟩
def spSure (CD : Addr) : Sp := fun vs H Q E => ∃ x t, vs = [x] ∧ TvAt H x t ∧ (deedB t = true → ∀ H', Same H H' → Q .non H') ∧ (deedB t = false → ∀ H', Same H H' → E (.ref CD) none H')
def spSureS (CT CM CS : Addr) : Sp := fun vs H Q E => ∃ a z mo B i, vs = [.ref B.T, .int i] ∧ TAt H CT CM a z mo B ∧ (i = 0 → Q .non H) ∧ (i ≠ 0 → E (.ref CS) none H)
/-- what is no name of a tree there -/
def MtBad (H : Hp) (z : Str) (v : V) : Prop := Oth H v ∨ (∃ i, v = .int i) ∨ (∃ b, v = .bl b) ∨ ∃ u, v = .str u ∧ u.length ≤ 100000 ∧ (nameB u = false ∨ u ≠ z)
theorem MtBad.same {H H' : Hp} {z : Str} {v : V} (h : MtBad H z v) (s : Same H H') : MtBad H' z v := by
  rcases h with h | h | h | h
  · exact .inl (h.same s)
  · exact .inr (.inl h)
  · exact .inr (.inr (.inl h))
  · exact .inr (.inr (.inr h))
def spDM (CT CM CN : Addr) : Sp := fun vs H Q E => ∃ a z mo B tv p, vs = [.ref B.T, .int 0, tv, p] ∧ TAt H CT CM a z mo B ∧ MtBad H z tv ∧ ∀ H', Same H H' → E (.ref CN) none H'
section
variable {P : Program} {w : World} {K : PySem.W.Frag} {mg : Str → Option Value} {base : Heap} {CM CT CW CD CS CN : Addr}
theorem ok_sure {f : Addr} {fd : FuncData} {k : Nat} (F : Fun K "sure_deed" "sure_deed" sSureDeed f fd) (e : Ec K mg "NoDeed" CD) (I : Cl P w K mg base CX0 4 "is_deed" ["thing"] spIsDeed) : FnOk P w K mg base (L2.CX P w) (k + 5) f fd ["thing"] (spSure CD) := by
  refine F.okX scSure (fun vs H Q E h => ?_) (fun cdv A outer s H vs Q E hr h => ?_)
  · obtain ⟨x, t, rfl, _⟩ := h
    rfl
  · obtain ⟨x, t, rfl, ht, q1, q2⟩ := h
    refine ⟨_, pss_one (ps_if (pt_not (pt_val (pe_cl I hr (by omega) (by rfl) pass0 (pa_cons (pv 0) pa_nil)))) (pss_one (ps_raise rfl (takes_of rfl rfl rfl rfl) (pmk_own PySem.F.excBase_ValueError e.x e.g e.k (raises_own e.b e.t) (by rfl)))) pss_nil), ?_⟩
    refine ⟨_, rfl, x, t, rfl, ht, fun H1 s1 => ⟨_, rfl, ?_⟩⟩
    cases hb : deedB t with
    | true => exact iteF (q1 hb H1 s1)
    | false => exact iteT (q2 hb H1 s1)
theorem ok_sureS {f : Addr} {fd : FuncData} {k : Nat} (F : Fun K "sure_space" "Table.sure_space" sSureS f fd) (B' : Bi mg) (cT : Cn K CT tbN) (e : Ec K mg "NoSpace" CS) : FnOk P w K mg base (L2.CX P w) (k + 1) f fd ["self", "space"] (spSureS CT CM CS) := by
  refine F.okX scSureS (fun vs H Q E h => ?_) (fun cdv A outer s H vs Q E hr h => ?_)
  · obtain ⟨a, z, mo, B, i, rfl, _⟩ := h
    rfl
  · obtain ⟨a, z, mo, B, i, rfl, t, q1, q2⟩ := h
    refine ⟨_, pss_one (ps_if (PW.pt (pw_or (pt_not (pt_val (pe_callB call_isi (by rfl) B'.isin (by decide +kernel) (pa_cons (pv 1) (pa_cons (pe_bltn (v := .ty "int") (by rfl) B'.int (by decide +kernel) rfl) pa_nil))))) (pw_or (pt_val (pe_callB call_isi (by rfl) B'.isin (by decide +kernel) (pa_cons (pv 1) (pa_cons (pe_bltn (v := .ty "bool") (by rfl) B'.bool (by decide +kernel) rfl) pa_nil)))) (pw_or1 (pt_cmp (pc_dnotin (units1 hr) (pv 1) (pe_fld (pv 0) rfl)))))))
      (pss_one (ps_raise rfl (takes_of rfl rfl rfl rfl) (pmk_own PySem.F.excBase_ValueError e.x e.g e.k (raises_own e.b e.t) (by rfl)))) pss_nil), ?_⟩
    refine ⟨_, rfl, _, .ty "int", _, _, true, rfl, .ty _, .base (.int i), kit_ty (by decide +kernel), _, rfl, iteF ?_⟩
    refine ⟨_, rfl, _, .ty "bool", _, _, false, rfl, .ty _, .base (.int i), kit_ty (by decide +kernel), _, rfl, iteF ?_⟩
    refine ⟨_, rfl, _, rfl, B.T, CT, B.dT, _, .ref B.tp, rfl, t.hT, cT.cl, cT.no _ (by decide +kernel), rfl, B.tp, _, rfl, DGet.k (k := (Sum.inl i : Key)) t.tp, _, rfl, ?_⟩
    by_cases hi : i = 0
    · subst hi
      exact iteF (q1 rfl)
    · have hv : valV [((Sum.inl 0 : Key), V.int 0)] (Sum.inl i) = none := by
        have : ¬ (0 : Int) = i := fun h => hi h.symm
        simp [valV, this]
      rw [hv]
      exact iteT (q2 hi)
theorem ok_DM {f : Addr} {fd : FuncData} {k : Nat} (F : Fun K "do_mount" "do_mount" sDoMount f fd) (B' : Bi mg) (cT : Cn K CT tbN) (e : Ec K mg "NoTree" CN) (N : Cl P w K mg base CX0 1 "is_name" ["thing"] (spName K)) : FnOk P w K mg base (L2.CX P w) (k + 2) f fd ["table", "space", "tree", "path"] (spDM CT CM CN) := by
  refine F.okX scDM (fun vs H Q E h => ?_) (fun cdv A outer s H vs Q E hr h => ?_)
  · obtain ⟨a, z, mo, B, tv, p, rfl, _⟩ := h
    rfl
  · obtain ⟨a, z, mo, B, tv, p, rfl, t, hb, q⟩ := h
    have hu := units1 hr
    refine ⟨_, pss_cons (ps_if (pt_cmpR op_ne (pe_dget hu (pe_fld (pv 0) rfl) (pv 1) (fun _ _ => rfl)) pe_int (nomark _)) pss_no pss_nil)
      (pss_cons (ps_if (PW.pt (pw_or (pt_not (pt_val (pe_cl N hr (by omega) (by rfl) pass0 (pa_cons (pv 2) pa_nil)))) (pw_or1 (pt_cmp (pc_dnotin hu (pv 2) (pe_fld (pv 0) rfl)))))) (pss_one (ps_raise rfl (takes_of rfl rfl rfl rfl) (pmk_own PySem.F.excBase_ValueError e.x e.g e.k (raises_own e.b e.t) (by rfl)))) pss_nil) pss_no), ?_⟩
    refine ⟨_, rfl, B.T, CT, B.dT, _, .ref B.ow, rfl, t.hT, cT.cl, cT.no _ (by decide +kernel), rfl, _, rfl, B.ow, .int 0, rfl, DGet.k (k := (Sum.inl 0 : Key)) t.ow, rfl, _, rfl, iteF ?_⟩
    rcases hb with ho | ⟨i, rfl⟩ | ⟨b, rfl⟩ | ⟨u, rfl, hul, hu2⟩
    · obtain ⟨n, ty, hs, _, _⟩ := Oth.ty (K := K) ho
      exact ⟨_, rfl, _, _, rfl, .other ty hs, fun H1 s1 => ⟨_, rfl, iteT (iteT (q H1 s1))⟩⟩
    · exact ⟨_, rfl, _, _, rfl, .other (.base (.int i)) (by decide +kernel), fun H1 s1 => ⟨_, rfl, iteT (iteT (q H1 s1))⟩⟩
    · exact ⟨_, rfl, _, _, rfl, .other (.base (.bl b)) (by decide +kernel), fun H1 s1 => ⟨_, rfl, iteT (iteT (q H1 s1))⟩⟩
    · refine ⟨_, rfl, _, _, rfl, .str u hul, fun H1 s1 => ⟨_, rfl, ?_⟩⟩
      cases hn : nameB u with
      | false => exact iteT (iteT (q H1 s1))
      | true =>
        have t1 := t.same s1
        have ne : u ≠ z := hu2.resolve_left (by rw [hn]; decide)
        have hv : valV [((Sum.inr z : Key), V.ref a)] (Sum.inr u) = none := by
          have : ¬ z = u := fun h => ne h.symm
          simp [valV, this]
        refine iteF ⟨_, rfl, _, rfl, B.T, CT, B.dT, _, .ref B.tr, rfl, t1.hT, cT.cl, cT.no _ (by decide +kernel), rfl, B.tr, _, rfl, DGet.k (k := (Sum.inr u : Key)) t1.tr, _, rfl, ?_⟩
        rw [hv]
        exact iteT (q H1 s1)
end
end Tx
set_option Elab.async false
set_option linter.all false
set_option maxRecDepth 100000
set_option maxHeartbeats 8000000
namespace Tx
open PySem PySem.Spec PyProof.Rows L2 Cm Ob
abbrev nMD : List Str := ["table", "deed", "stood", "plain", "word", "space"]
theorem scMD : FnScope nMD ["table", "deed", "stood"] (defScope sMakeDeed) := ⟨rfl, rfl, rfl, by decide +kernel, rfl, by decide +kernel, by decide +kernel⟩
def spMD (CT CM CS CN : Addr) : Sp := fun vs H Q E => ∃ a z mo B d wd i rest st, vs = [.ref B.T, .ref d, st] ∧ TAt H CT CM a z mo B ∧ H d = some (.tup (.str wd :: .int i :: rest)) ∧ rest ≠ [] ∧ rest.length ≤ 100 ∧ (i ≠ 0 → ∀ H', Same H H' → E (.ref CS) none H') ∧
  (i = 0 → wd = "mount" ∧ ∃ tv p, rest = [tv, p] ∧ MtBad H z tv ∧ ∀ H', Same H H' → E (.ref CN) none H')
/-- the defs that the dict names -/
structure Pl (mg : Str → Option Value) (f1 f2 f3 f4 f5 f6 : Addr) : Prop where
  g1 : mg "do_mount" = some (.ref f1)
  g2 : mg "do_bind" = some (.ref f2)
  g3 : mg "do_bind_all" = some (.ref f3)
  g4 : mg "do_move" = some (.ref f4)
  g5 : mg "do_make" = some (.ref f5)
  g6 : mg "do_make_all" = some (.ref f6)
section
variable {P : Program} {w : World} {K : PySem.W.Frag} {mg : Str → Option Value} {base : Heap} {CM CT CW CD CS CN : Addr}
theorem ok_MD {f fS f1 f2 f3 f4 f5 f6 : Addr} {fd fdS fd1 : FuncData} {k : Nat} (F : Fun K "make_deed" "make_deed" sMakeDeed f fd) (B' : Bi mg) (cT : Cn K CT tbN) (mS : Meth K CT "sure_space" fS) (FS : FnOk P w K mg base (L2.CX P w) 1 fS fdS ["self", "space"] (spSureS CT CM CS)) (bS : Binds K fdS ["self", "space"] [])
    (pl : Pl mg f1 f2 f3 f4 f5 f6) (F1 : FnOk P w K mg base (L2.CX P w) 2 f1 fd1 ["table", "space", "tree", "path"] (spDM CT CM CN)) (k1 : PySem.W.keepIn K (.ref f1) = true) (b1 : Binds K fd1 ["table", "space", "tree", "path"] []) : FnOk P w K mg base (L2.CX P w) (k + 3) f fd ["table", "deed", "stood"] (spMD CT CM CS CN) := by
  refine F.okX scMD (fun vs H Q E h => ?_) (fun cdv A outer s H vs Q E hr h => ?_)
  · obtain ⟨a, z, mo, B, d, wd, i, rest, st, rfl, _⟩ := h
    rfl
  · obtain ⟨a, z, mo, B, d, wd, i, rest, st, rfl, t, hd, hne, hlen, q1, q2⟩ := h
    have hr1 : Room 1 (cxOf (L2.CX P w) P w K mg base nMD "make_deed" (defScope sMakeDeed) f cdv A outer s H E).A := hr.mono (by omega)
    have hr2 : Room 2 (cxOf (L2.CX P w) P w K mg base nMD "make_deed" (defScope sMakeDeed) f cdv A outer s H E).A := hr.mono (by omega)
    have hu := units1 hr1
    refine ⟨_, pss_cons (ps_asg (pe_slice sl_tup (pv 1) po_none (po_some pe_int)) (pg_tup rfl (pgs_cons (pg_name (i := 4) scMD.nd rfl (Or.inl rfl)) (pgs_cons (pg_name (i := 5) scMD.nd rfl (Or.inl rfl)) pgs_nil))))
      (pss_cons (ps_expr (pe_meth (pv 0) cT.cl mS FS hr1 bS .nil (passes_call (takes_of rfl rfl rfl rfl) (fun _ _ _ _ h => h)) (pa_cons (pv 5) pa_nil)))
      (pss_cons (ps_if (pt_cmpR op_eq (pv 4) pe_str (nomark _)) pss_no pss_nil)
      (pss_cons (ps_if (pt_cmpR op_eq (pv 4) pe_str (nomark _)) pss_no pss_nil)
      (pss_cons (ps_if (pt_cmpR op_eq (pv 4) pe_str (nomark _)) pss_no pss_nil)
      (pss_cons (ps_set (i := 3) scMD.nd rfl (.inl rfl) (pe_disp (pps_cons pe_str (pe_glob (v := .ref f1) (by rfl) pl.g1 rfl) (pps_cons pe_str (pe_glob (v := .ref f2) (by rfl) pl.g2 rfl) (pps_cons pe_str (pe_glob (v := .ref f3) (by rfl) pl.g3 rfl) (pps_cons pe_str (pe_glob (v := .ref f4) (by rfl) pl.g4 rfl) pps_nil)))) rfl rfl (by simp) (by decide)))
      (pss_cons (ps_aug (i := 3) scMD.nd rfl (.inl rfl) (pe_disp (pps_cons pe_str (pe_glob (v := .ref f5) (by rfl) pl.g5 rfl) (pps_cons pe_str (pe_glob (v := .ref f6) (by rfl) pl.g6 rfl) pps_nil)) rfl rfl (by simp) (by decide)) Io.iop_ior)
      (pss_one (ps_ret (Io.pe_callE (pe_dget hu (pv 3) (pv 4) (fun _ _ => rfl)) F1 hr2 k1 b1 (passes_call (takes_of rfl rfl rfl rfl) (fun _ _ _ _ h => h)) (pa_cons (pv 0) (pa_cons (pv 5) (pa_cons (pe_ix ix_tup (pv 1) pe_int (fun _ _ => rfl)) (pa_cons (pe_ix ix_tup (pv 1) pe_int (fun _ _ => rfl)) pa_nil))))))))))))), ?_⟩
    have hcut : cutV (V.str wd :: .int i :: rest) none (some 2) = [.str wd, .int i] := by
      unfold cutV
      rw [HT.sIx_none]
      have e : HT.sIx (V.str wd :: V.int i :: rest).length (V.str wd :: V.int i :: rest).length (some 2) = 2 := (HT.sIx_nat _ _ 2).trans (by simp only [List.length_cons]; omega)
      rw [e]
      rfl
    refine ⟨_, rfl, 2, rfl, d, _, rfl, SqT.of hd, fun z0 => ?_, fun p1 hp1 => ?_⟩
    · have e : HT.sIx (V.str wd :: V.int i :: rest).length (V.str wd :: V.int i :: rest).length (some 2) = 2 := (HT.sIx_nat _ _ 2).trans (by simp only [List.length_cons]; omega)
      have := z0.2
      rw [e] at this
      simp only [List.length_cons] at this
      exact hne (List.length_eq_zero_iff.mp (by omega))
    rw [hcut]
    have s1 := same_new (o := HO.tup [V.str wd, .int i]) hp1
    have t1 := t.same s1
    refine ⟨p1, _, rfl, SqT.of upd_same, rfl, _, _, rfl, _, _, rfl, rfl, ?_⟩
    refine ⟨_, rfl, B.T, B.dT, _, rfl, t1.hT, rfl, _, rfl, a, z, mo, B, i, rfl, t1, fun hi => ?_, fun hi => q1 hi _ s1⟩
    obtain ⟨rfl, tv, p, rfl, hb, qE⟩ := q2 hi
    subst hi
    refine ⟨_, rfl, rfl, _, rfl, iteF ?_⟩
    refine ⟨_, rfl, rfl, _, rfl, iteF ?_⟩
    refine ⟨_, rfl, rfl, _, rfl, iteF ?_⟩
    intro p2 hp2
    refine ⟨upd_same, [(Sum.inr "mount", .ref f1), (Sum.inr "bind", .ref f2), (Sum.inr "bind all", .ref f3), (Sum.inr "move", .ref f4)], rfl, by show 4 ≤ 15; decide, ?_⟩
    have s2 : Same (upd H p1 (.tup [V.str "mount", .int 0])) (upd (upd (upd H p1 (.tup [V.str "mount", .int 0])) p2 (.dK [])) p2 (.dK (mergeK [] [(Sum.inr "mount", .ref f1), (Sum.inr "bind", .ref f2), (Sum.inr "bind all", .ref f3), (Sum.inr "move", .ref f4)]))) := same_mut hp2 (same_new hp2)
    generalize hH2 : upd (upd (upd H p1 (.tup [V.str "mount", .int 0])) p2 (.dK [])) p2 (.dK (mergeK [] [(Sum.inr "mount", .ref f1), (Sum.inr "bind", .ref f2), (Sum.inr "bind all", .ref f3), (Sum.inr "move", .ref f4)])) = H2 at *
    have h2 : H2 p2 = some (.dK (mergeK [] [(Sum.inr "mount", .ref f1), (Sum.inr "bind", .ref f2), (Sum.inr "bind all", .ref f3), (Sum.inr "move", .ref f4)])) := by
      rw [← hH2]
      exact upd_same
    have hp2H : H p2 = none := by
      cases e : H p2 with
      | none => rfl
      | some o =>
        rw [s1 _ _ e] at hp2
        cases hp2
    refine ⟨_, rfl, fun p3 hp3 => ⟨upd_same, [(Sum.inr "make", .ref f5), (Sum.inr "make all", .ref f6)], rfl, by show 2 ≤ 15; decide, ?_⟩⟩
    have s3 : Same H2 (upd (upd H2 p3 (.dK [])) p3 (.dK (mergeK [] [(Sum.inr "make", .ref f5), (Sum.inr "make all", .ref f6)]))) := same_mut hp3 (same_new hp3)
    have n23 : p2 ≠ p3 := ne_of_none h2 hp3
    refine ⟨p2, p3, _, _, rfl, rfl, s3 _ _ h2, upd_same, n23, by show 4 + 2 ≤ 1000; decide, ?_⟩
    have sF : Same H (upd (upd (upd H2 p3 (.dK [])) p3 (.dK (mergeK [] [(Sum.inr "make", .ref f5), (Sum.inr "make all", .ref f6)]))) p2 (.dK (mergeK (mergeK [] [(Sum.inr "mount", .ref f1), (Sum.inr "bind", .ref f2), (Sum.inr "bind all", .ref f3), (Sum.inr "move", .ref f4)]) (mergeK [] [(Sum.inr "make", .ref f5), (Sum.inr "make all", .ref f6)])))) := same_mut hp2H (s1.trans (s2.trans s3))
    have tF := t.same sF
    have hdF := sF _ _ hd
    refine ⟨_, rfl, _, rfl, p2, .ref f1, rfl, DGet.k (k := (Sum.inr "mount" : Key)) upd_same, rfl, _, rfl, _, rfl, _, rfl, d, _, 2, tv, rfl, rfl, SqT.of hdF, rfl, _, rfl, d, _, 3, p, rfl, rfl, SqT.of hdF, rfl, a, z, mo, B, tv, p, rfl, tF, hb.same sF, fun H' s' => qE H' (sF.trans s')⟩
/-! ### stood, do, past -/
abbrev sDo : Stmt := inClass sWorldC 1
abbrev sStood : Stmt := inClass sWorldC 2
abbrev sPast : Stmt := inClass sWorldC 4
theorem scDo : FnScope ["self", "deed", "table", "found"] ["self", "deed"] (defScope sDo) := ⟨rfl, rfl, rfl, by decide +kernel, rfl, by decide +kernel, by decide +kernel⟩
theorem scStood : FnScope ["self", "found", "session"] ["self"] (defScope sStood) := ⟨rfl, rfl, rfl, by decide +kernel, rfl, by decide +kernel, by decide +kernel⟩
theorem scPast : FnScope ["self"] ["self"] (defScope sPast) := ⟨rfl, rfl, rfl, by decide +kernel, rfl, by decide +kernel, by decide +kernel⟩
def spStood (CW CT CM : Addr) : Sp := fun vs H Q _ => ∃ x dx l1 l2 a z mo B, vs = [.ref x] ∧ WAt H CW CT CM a z mo x dx l1 l2 B ∧ ∀ v H', Same H H' → Q v H'
def spPast (CW CT CM : Addr) : Sp := fun vs H Q _ => ∃ x dx l1 l2 a z mo B, vs = [.ref x] ∧ WAt H CW CT CM a z mo x dx l1 l2 B ∧ ∀ p H', Same H H' → H' p = some (.lst []) → Q (.ref p) H'
theorem ok_stood {f : Addr} {fd : FuncData} {k : Nat} (F : Fun K "stood" "World.stood" sStood f fd) (cW : Cn K CW woN) : FnOk P w K mg base CX0 (k + 1) f fd ["self"] (spStood CW CT CM) := by
  refine F.ok scStood (fun vs H Q E h => ?_) (fun cdv A outer s H vs Q E hr h => ?_)
  · obtain ⟨x, dx, l1, l2, a, z, mo, B, rfl, _⟩ := h
    rfl
  · obtain ⟨x, dx, l1, l2, a, z, mo, B, rfl, W, q⟩ := h
    refine ⟨_, pss_cons (ps_set (i := 1) scStood.nd rfl (.inl rfl) pe_dnewK) (pss_cons (ps_for PassesOwn.never rfl (pi_list (pe_fld (pv 0) rfl)) (pg_name (i := 2) scStood.nd rfl (Or.inl rfl)) pss_no) (pss_one (ps_ret (pv 1)))), ?_⟩
    intro p hp
    have s1 := same_new (o := HO.dK []) hp
    have W1 := W.same s1
    refine ⟨_, rfl, x, CW, dx, _, .ref l2, rfl, W1.hx, cW.cl, cW.no _ (by decide +kernel), rfl, l2, rfl, ⟨_, SqL.of W1.h2⟩, for_list (K := K) (a := l2) (xs := []) (fun i σ H' => σ = [some (.ref x), some (.ref p), none] ∧ H' = upd H p (.dK [])) ⟨rfl, rfl⟩ (fun i σ H' _ h => by rw [h.2]; exact SqL.of W1.h2) ?_ ?_⟩
    · rintro i y σ H1 hy
      cases hy
    · rintro σ H1 ⟨rfl, rfl⟩
      exact ⟨_, rfl, q _ _ s1⟩
theorem ok_past {f : Addr} {fd : FuncData} {k : Nat} (F : Fun K "past" "World.past" sPast f fd) (hl : mg "list" = none) (cW : Cn K CW woN) : FnOk P w K mg base CX0 (k + 1) f fd ["self"] (spPast CW CT CM) := by
  refine F.ok scPast (fun vs H Q E h => ?_) (fun cdv A outer s H vs Q E hr h => ?_)
  · obtain ⟨x, dx, l1, l2, a, z, mo, B, rfl, _⟩ := h
    rfl
  · obtain ⟨x, dx, l1, l2, a, z, mo, B, rfl, W, q⟩ := h
    refine ⟨_, pss_one (ps_ret (pe_callTy call_list_of (by rfl) hl (by decide +kernel) (pa_cons (pe_fld (pv 0) rfl) pa_nil))), ?_⟩
    exact ⟨_, rfl, x, CW, dx, _, .ref l1, rfl, W.hx, cW.cl, cW.no _ (by decide +kernel), rfl, l1, _, rfl, .inl (SqL.of W.h1), fun p hp => q p _ (same_new hp) upd_same⟩
def spDo (CW CT CM CD CS CN : Addr) : Sp := fun vs H Q E => ∃ x dx l1 l2 a z mo B v t, vs = [.ref x, v] ∧ WAt H CW CT CM a z mo x dx l1 l2 B ∧ TvAt H v t ∧ (deedB t = false → ∀ H', Same H H' → E (.ref CD) none H') ∧
  (deedB t = true → ∃ d wd i rest, v = .ref d ∧ H d = some (.tup (.str wd :: .int i :: rest)) ∧ rest ≠ [] ∧ rest.length ≤ 100 ∧ (i ≠ 0 → ∀ H', Same H H' → E (.ref CS) none H') ∧ (i = 0 → wd = "mount" ∧ ∃ tv p, rest = [tv, p] ∧ MtBad H z tv ∧ ∀ H', Same H H' → E (.ref CN) none H'))
theorem ok_do {f : Addr} {fd : FuncData} {k : Nat} (F : Fun K "do" "World.do" sDo f fd) (cW : Cn K CW woN) (cT : Cn K CT tbN) (Su : Cl P w K mg base (L2.CX P w) 5 "sure_deed" ["thing"] (spSure CD)) (Co : Mt P w K mg base 4 CT "copied" ["self"] (spTbC CT CM)) (Md : Cl P w K mg base (L2.CX P w) 3 "make_deed" ["table", "deed", "stood"] (spMD CT CM CS CN)) (St : Mt P w K mg base 1 CW "stood" ["self"] (spStood CW CT CM)) :
    FnOk P w K mg base (L2.CX P w) (k + 6) f fd ["self", "deed"] (spDo CW CT CM CD CS CN) := by
  obtain ⟨fC, fdC, mC, FC, bC⟩ := Co
  obtain ⟨fS, fdS, mS, FS, bS⟩ := St
  refine F.okX scDo (fun vs H Q E h => ?_) (fun cdv A outer s H vs Q E hr h => ?_)
  · obtain ⟨x, dx, l1, l2, a, z, mo, B, v, t, rfl, _⟩ := h
    rfl
  · obtain ⟨x, dx, l1, l2, a, z, mo, B, v, t, rfl, W, ht, q1, q2⟩ := h
    have hr1 : Room 1 (cxOf (L2.CX P w) P w K mg base ["self", "deed", "table", "found"] "World.do" (defScope sDo) f cdv A outer s H E).A := hr.mono (by omega)
    have hr4 : Room 4 (cxOf (L2.CX P w) P w K mg base ["self", "deed", "table", "found"] "World.do" (defScope sDo) f cdv A outer s H E).A := hr.mono (by omega)
    refine ⟨_, pss_cons (ps_expr (pe_cl Su hr (by omega) (by rfl) (passes_call (takes_of rfl rfl rfl rfl) (fun _ _ _ _ h => h)) (pa_cons (pv 1) pa_nil)))
      (pss_cons (ps_set (i := 2) scDo.nd rfl (.inl rfl) (pe_meth0 (pe_fld (pv 0) rfl) cT.cl mC FC hr4 bC .nil pass0))
      (pss_cons (ps_set (i := 3) scDo.nd rfl (.inl rfl) (pe_cl Md hr (by omega) (by rfl) (passes_call (takes_of rfl rfl rfl rfl) (fun _ _ _ _ h => h)) (pa_cons (pv 2) (pa_cons (pv 1) (pa_cons (pe_meth0 (pv 0) cW.cl mS FS hr1 bS .nil pass0) pa_nil)))))
      pss_no)), ?_⟩
    refine ⟨_, rfl, v, t, rfl, ht, fun hb H1 s1 => ?_, q1⟩
    have W1 := W.same s1
    obtain ⟨d, wd, i, rest, rfl, hd, hne, hlen, e1, e2⟩ := q2 hb
    refine ⟨_, rfl, x, CW, dx, _, .ref B.T, rfl, W1.hx, cW.cl, cW.no _ (by decide +kernel), rfl, B.T, B.dT, _, rfl, W1.t.hT, rfl, a, z, mo, B, rfl, W1.t, fun H2 B2 s2 t2 _ => ?_⟩
    have s12 := s1.trans s2
    refine ⟨_, rfl, _, rfl, _, rfl, x, dx, _, rfl, (W.same s12).hx, rfl, x, dx, l1, l2, a, z, mo, B, rfl, W.same s12, fun v3 H3 s3 => ?_⟩
    have s13 := s12.trans s3
    refine ⟨a, z, mo, B2, d, wd, i, rest, v3, rfl, t2.same s3, s13 _ _ hd, hne, hlen, fun hi H' s' => e1 hi H' (s13.trans s'), fun hi => ?_⟩
    obtain ⟨rfl, tv, p, rfl, hb, qE⟩ := e2 hi
    exact ⟨rfl, tv, p, rfl, hb.same s13, fun H' s' => qE H' (s13.trans s')⟩
end
end Tx
set_option Elab.async false
set_option linter.all false
set_option maxRecDepth 100000
set_option maxHeartbeats 8000000
namespace Tx
open PySem PySem.Spec PyProof.Rows L2 Cm
theorem scDigit : FnScope ["_law_state", "_law_base", "_law_cell", "_law_found", "_law_number"] ["_law_state", "_law_base"] (defScope sDigit) := ⟨rfl, rfl, rfl, by decide +kernel, rfl, by decide +kernel, by decide +kernel⟩
theorem scCell : FnScope ["_law_script", "_law_k"] ["_law_script", "_law_k"] (defScope sCell) := ⟨rfl, rfl, rfl, by decide +kernel, rfl, by decide +kernel, by decide +kernel⟩
/-- _law_cell_at -/
def spCell (K : PySem.W.Frag) : Sp := fun vs H Q _ => ∃ (a : Addr) (ns : List Int) (k : Nat), vs = [.ref a, .int k] ∧ SqL K H a (ns.map V.int) ∧ ∀ i : Int, (∀ j, ns[k]? = some j → i = j) → Q (.int i) H
section
variable {P : Program} {w : World} {K : PySem.W.Frag} {mg : Str → Option Value} {base : Heap}
theorem ok_cell {f : Addr} {fd : FuncData} {k : Nat} (F : Fun K "_law_cell_at" "_law_cell_at" sCell f fd) (B : Bi mg) : FnOk P w K mg base CX0 (k + 1) f fd ["_law_script", "_law_k"] (spCell K) := by
  refine F.ok scCell (fun vs H Q E h => ?_) (fun cdv A outer s H vs Q E hr h => ?_)
  · obtain ⟨a, ns, j, rfl, _⟩ := h
    rfl
  · obtain ⟨a, ns, j, rfl, hS, q⟩ := h
    refine ⟨_, pss_cons (ps_if (pt_cmpR op_lt (pv 1) (pe_callB call_len_seq (by rfl) B.len PySem.boot_len (pa_cons (pv 0) pa_nil)) (nomark _)) (pss_one (ps_ret (pe_ix ix_list (pv 0) (pv 1) (fun _ _ => rfl)))) pss_nil) (pss_one (ps_ret pe_int)), ?_⟩
    refine ⟨_, rfl, _, rfl, a, _, rfl, .inl hS, _, _, rfl, rfl, _, rfl, ite2 (fun c => ?_) (fun c => ?_)⟩
    · have c' : (j : Int) < ((ns.map V.int).length : Nat) := of_decide_eq_true c
      rw [List.length_map] at c'
      have hj : j < ns.length := by omega
      refine ⟨_, rfl, _, rfl, a, _, j, .int ns[j], rfl, rfl, hS, ?_, q _ fun i e => ?_⟩
      · refine atI_nat ?_
        rw [List.getElem?_map, List.getElem?_eq_getElem hj]
        rfl
      · rw [List.getElem?_eq_getElem hj] at e
        exact Option.some.inj e
    · have c' : ¬ (j : Int) < ((ns.map V.int).length : Nat) := fun z => c (decide_eq_true z)
      rw [List.length_map] at c'
      exact q 0 fun i e => by
        have := (List.getElem?_eq_some_iff.mp e).1
        omega
theorem ok_digit {f : Addr} {fd : FuncData} {k : Nat} (F : Fun K "_law_digit" "_law_digit" sDigit f fd) (B : Bi mg) : FnOk P w K mg base CX0 (k + 1) f fd ["_law_state", "_law_base"] spDigit := by
  refine F.ok scDigit (fun vs H Q E h => ?_) (fun cdv A outer s H vs Q E hr h => ?_)
  · obtain ⟨l, st, b, rfl, _⟩ := h
    rfl
  · obtain ⟨l, st, b, rfl, hl, hst, hb0, hb1, q⟩ := h
    refine ⟨_, C8.pss_cut (ps_if (pt_cmpR op_eq (pe_callB call_len_seq (by rfl) B.len PySem.boot_len (pa_cons (pv 0) pa_nil)) pe_int (nomark _))
        (pss_cons (ps_set (i := 2) scDigit.nd rfl (.inl rfl) (pe_ix ix_list (pv 0) pe_int (fun _ _ => rfl)))
        (pss_cons (ps_asg (pe_ix ix_list (pe_lst (pa_cons pe_int (pa_cons (pv 2) pa_nil))) (pe_callTy call_int1 (by rfl) B.int (by decide +kernel) (pa_cons (pe_cmpR op_ge (pv 2) (pe_op op_pow pe_int pe_int) (nomark _)) pa_nil)) (fun _ _ => rfl)) (pg_sub (pv 0) pe_int set_list))
          (pss_one (ps_expr (pe_bm PySem.F.plainAttrs_list PySem.F.slot_list_extend PySem.F.type_list_extend mt_extend (pv 0) (pa_cons (pe_lst (pa_cons (pe_op op_mod (pe_callTy call_int1 (by rfl) B.int (by decide +kernel) (pa_cons (pv 2) pa_nil)) pe_int) (pa_cons pe_int pa_nil))) pa_nil))))))
        pss_nil)
      (pss_cons (ps_if (pt_cmpR op_gt (pe_ix ix_list (pv 0) pe_int (fun _ _ => rfl)) pe_int (nomark _))
        (pss_cons (ps_set (i := 3) scDigit.nd rfl (.inl rfl) (pe_op op_mod (pe_callTy call_int1 (by rfl) B.int (by decide +kernel) (pa_cons (pe_ix ix_list (pv 0) pe_int (fun _ _ => rfl)) pa_nil)) (pv 1)))
          (pss_cons (ps_asg (pe_op op_fdiv (pe_ix ix_list (pv 0) pe_int (fun _ _ => rfl)) (pv 1)) (pg_sub (pv 0) pe_int set_list))
          (pss_one (ps_ret (pv 3))))) pss_nil)
      (pss_cons (ps_asg (pe_op op_add (pe_ix ix_list (pv 0) pe_int (fun _ _ => rfl)) pe_int) (pg_sub (pv 0) pe_int set_list))
      (pss_cons (ps_set (i := 4) scDigit.nd rfl (.inl rfl) (pe_op op_mod (pe_callTy call_int1 (by rfl) B.int (by decide +kernel) (pa_cons (pe_op op_mul (pe_op op_add (pe_op op_add (pe_ix ix_list (pv 0) pe_int (fun _ _ => rfl)) (pe_op op_mul pe_int (pe_ix ix_list (pv 0) pe_int (fun _ _ => rfl)))) pe_int) pe_int) pa_nil)) pe_int))
      (pss_cons (ps_set (i := 4) scDigit.nd rfl (.inl rfl) (pe_op op_mod (pe_callTy call_int1 (by rfl) B.int (by decide +kernel) (pa_cons (pe_op op_mul (pv 4) (pe_op op_add (pe_op op_fdiv (pv 4) pe_int) pe_int)) pa_nil)) pe_int))
      (pss_one (ps_ret (pe_op op_mod (pe_op op_mod (pe_callTy call_int1 (by rfl) B.int (by decide +kernel) (pa_cons (pe_op op_mul (pv 4) (pe_op op_add (pe_op op_fdiv (pv 4) pe_int) pe_int)) pa_nil)) pe_int) (pv 1)))))))), ?_⟩
    refine ⟨fun σ' H' => ∃ x a b' c, σ' = [some (.ref l), some (.int b), x, none, none] ∧ H' l = some (.lst [.int a, .int b', .int c]) ∧ But l H H', ?_, ?_⟩
    · refine ⟨_, rfl, l, st, rfl, .inl (SqL.of hl), rfl, _, rfl, ?_⟩
      rcases hst with ⟨c, rfl⟩ | ⟨a, b', c, rfl⟩
      · refine iteT ?_
        refine ⟨_, rfl, l, _, 0, .int c, rfl, rfl, SqL.of hl, rfl, ?_⟩
        refine ⟨_, rfl, (by show 2 ≤ sizeLine; decide), fun p hp => ?_⟩
        refine ⟨_, rfl, 10, 18, rfl, rfl, ⟨by decide, by decide, by decide⟩, c, _, rfl, rfl, .inr ⟨_, rfl, ?_⟩⟩
        have npl : l ≠ p := ne_of_none hl hp
        have hl1 : upd H p (.lst [.int 0, .int c]) l = some (.lst [.int c]) := by
          rw [upd_ne npl]
          exact hl
        obtain ⟨z, hz⟩ : ∃ z : Int, atI [V.int 0, V.int c] (if decide (10 ^ Int.toNat 18 ≤ c) = true then 1 else 0) = some (.int z) := by
          split
          · exact ⟨c, rfl⟩
          · exact ⟨0, rfl⟩
        refine ⟨p, _, _, .int z, rfl, rfl, SqL.of upd_same, hz, ?_⟩
        refine ⟨_, rfl, l, _, 0, 0, rfl, rfl, hl1, rfl, ?_⟩
        refine ⟨_, rfl, .inl ⟨rfl, _, SqL.of upd_same⟩, _, rfl, .inl ⟨c, rfl, ?_⟩⟩
        refine ⟨_, _, rfl, rfl, (by show (0 : Int) < 2147483647; decide), (by show 2 ≤ sizeLine; decide), fun p2 hp2 => ?_⟩
        have np2 : l ≠ p2 := ne_of_none upd_same hp2
        refine ⟨l, p2, _, _, rfl, rfl, (by rw [upd_ne np2]; exact upd_same), upd_same, (by show 1 + 2 ≤ sizeLine; decide), ?_⟩
        refine ⟨_, _, _, _, rfl, upd_same, fun b u n e => ?_⟩
        have e1 : upd H p (.lst [.int 0, .int c]) b = some u := by
          rw [upd_ne (ne_of_none e hp)]
          exact e
        have e2 : upd (upd H p (.lst [.int 0, .int c])) l (.lst [.int z]) b = some u := by
          rw [upd_ne n]
          exact e1
        rw [upd_ne n, upd_ne (ne_of_none e2 hp2)]
        exact e2
      · refine iteF ?_
        exact ⟨_, a, b', c, rfl, hl, But.refl l H⟩
    · rintro σ' H1 ⟨x, a, b', c, rfl, h1, bt⟩
      refine ⟨_, rfl, l, _, 0, .int a, rfl, rfl, SqL.of h1, rfl, a, 0, rfl, rfl, _, rfl, ite2 (fun ha => ?_) (fun ha => ?_)⟩
      · refine ⟨_, rfl, l, _, 0, .int a, rfl, rfl, SqL.of h1, rfl, .inl ⟨a, rfl, ?_⟩⟩
        refine ⟨_, rfl, a, b, rfl, rfl, hb0, ?_⟩
        refine ⟨_, rfl, l, _, 0, .int a, rfl, rfl, SqL.of h1, rfl, ?_⟩
        refine ⟨_, rfl, a, b, rfl, rfl, ⟨hb0, hb1⟩, ?_⟩
        refine ⟨_, rfl, l, _, 0, 0, rfl, rfl, h1, rfl, ?_⟩
        refine ⟨_, rfl, ?_⟩
        obtain ⟨d, hd, ed⟩ := mod_nat (x := a) hb0
        dsimp only
        rw [ed]
        exact q d _ _ hd (.inr ⟨_, _, _, rfl⟩) upd_same (bt.trans But.upd)
      · refine ⟨_, rfl, l, _, 2, .int c, rfl, rfl, SqL.of h1, rfl, c, 1, rfl, rfl, ?_⟩
        refine ⟨_, rfl, l, _, 2, 2, rfl, rfl, h1, rfl, ?_⟩
        refine ⟨_, rfl, l, _, 1, .int b', rfl, rfl, SqL.of upd_same, rfl, ?_⟩
        refine ⟨_, rfl, l, _, 2, .int (c + 1), rfl, rfl, SqL.of upd_same, rfl, ?_⟩
        refine ⟨7919, c + 1, rfl, rfl, .inl ⟨by decide, by decide⟩, b', _, rfl, rfl, _, _, rfl, rfl, _, _, rfl, rfl, .inr ⟨by decide, by decide⟩, .inl ⟨_, rfl, ?_⟩⟩
        refine ⟨_, _, rfl, rfl, (by show (0 : Int) < 2147483647; decide), ?_⟩
        obtain ⟨n1, hn1, en1⟩ := mod_nat (x := (b' + 7919 * (c + 1) + 1) * 48271) (b := 2147483647) (by decide)
        dsimp only
        rw [en1]
        refine ⟨_, rfl, _, rfl, n1, 1009, rfl, rfl, ⟨by decide, by decide⟩, _, _, rfl, rfl, n1, _, rfl, rfl, .inl ⟨by omega, by omega⟩, .inl ⟨_, rfl, ?_⟩⟩
        refine ⟨_, _, rfl, rfl, (by show (0 : Int) < 2147483647; decide), ?_⟩
        obtain ⟨n2, hn2, en2⟩ := mod_nat (x := (n1 : Int) * ((n1 : Int) / 1009 + 69621)) (b := 2147483647) (by decide)
        dsimp only
        rw [en2]
        refine ⟨_, rfl, _, rfl, n2, 2003, rfl, rfl, ⟨by decide, by decide⟩, _, _, rfl, rfl, n2, _, rfl, rfl, .inl ⟨by omega, by omega⟩, .inl ⟨_, rfl, ?_⟩⟩
        refine ⟨_, _, rfl, rfl, (by show (0 : Int) < 2147483399; decide), _, rfl, _, b, rfl, rfl, hb0, ?_⟩
        obtain ⟨d, hd, ed⟩ := mod_nat (x := (n2 : Int) * ((n2 : Int) / 2003 + 40692) % 2147483399) hb0
        dsimp only
        rw [ed]
        exact q d _ _ hd (.inr ⟨_, _, _, rfl⟩) upd_same (bt.trans But.upd)
end
end Tx
set_option Elab.async false
set_option linter.all false
set_option maxRecDepth 100000
set_option maxHeartbeats 4000000
/-! A constructor's call inside a try: what flies out is told at the slots of the call. -/
namespace DcE
open PySem PySem.Spec PyProof.Rows L2
section
variable {X : Cx} {CX : CXT} {k : Nat} {f C : Addr} {fd : FuncData} {ps : List Str} {sp : Sp} {E : L2.St → XK} {x : Str} {p pos : Pos} {e : Expr} {es : List Expr} {t : TA}
def tMakeS (C : Addr) (sp : Sp) (E : L2.St → XK) (t : TA) : TE := fun σ H Q => t σ H fun vs H1 => ∀ x dx, H1 x = none → H1 dx = none → dx ≠ x → sp (.ref x :: vs) (upd (upd H1 dx (.own x)) x (.ins C dx [])) (fun v H2 => v = .non ∧ Q (.ref x) H2) (E σ)
theorem pe_makeS (M : Mk X.K C f) (F : FnOk X.prog X.w X.K X.mg X.base CX k f fd ps sp) (hr : Room (k + 1) X.A) (hg : Gl X x) (hm : X.mg x = some (.ref C)) (hb : Binds X.K fd ps []) (hx : ∀ σ, PassesAt CX X σ (E σ)) (ha : PA X (e :: es) t)
    (hdb : (x == ("__debug__" : Str)) = false := by decide) (he : starEach (e :: es) X.env = (false, eval e X.env) :: starEach es X.env := by rfl) (hpl : (backTo pos (starEach es X.env)).any (·.1) = false := by rfl) :
    PE X (.Call (.Name x p) (e :: es) [] pos) (tMakeS C sp E t) := by
  constructor
  intro pins s σ H Q I h
  apply wpAny_Call_Name_kw
  apply ld_glob I hg hm _ hdb
  refine PySem.W.callWith_K (h₀ := X.base) I.ok.mod.kin M.kp ?_ he hpl
  refine thn (ha.run pos pins s σ H _ I h) ?_
  rintro us s1 ⟨vs, H1, I1, r, q⟩
  refine ⟨I1.kIn, ?_⟩
  have q1 := q (s1.heap.objs.size + 1) s1.heap.objs.size (I1.hok.fresh (by omega)) (I1.hok.fresh (Nat.le_refl _)) (Nat.ne_of_lt (Nat.lt_succ_self _))
  have J := Inv.made (C := C) I1
  have rs : Vals (V.ref (s1.heap.objs.size + 1) :: vs) (Value.ref (s1.heap.objs.size + 1) :: us) := .cons rfl r
  have hl := rs.length.symm.trans (F.len _ _ _ _ q1)
  have b := hb _ (Value.ref (s1.heap.objs.size + 1) :: us) J.kIn (by rw [List.append_nil]; exact hl)
  rw [List.append_nil] at b
  refine wpAny_call (make_map (f := f) I1.kIn M.makes M.init (beq_iff_eq.mp M.fn) (codeAny_mono (F.run _ X.stack _ _ _ _ _ _ (E σ) (hr.make C us []) (J.env0.make C us []) b rs q1) ?_))
  rintro (e | fl) s' z
  · exact hx σ pins _ _ e s' J z
  · match fl, z with
    | .ret u, z =>
      obtain ⟨v, H', I3, rv, ev, q3⟩ := J.after z
      subst ev
      exact ⟨rv, V.ref (s1.heap.objs.size + 1), H', I3, rfl, q3⟩
end
end DcE
set_option Elab.async false
set_option linter.all false
set_option maxRecDepth 100000
set_option maxHeartbeats 8000000
namespace Tx
open PySem PySem.Spec PyProof.Rows L2 Cm Ob
/-! ### a method called within a try -/
theorem pe_methT {X : Cx} {CX : CXT} {k : Nat} {f C : Addr} {fd : FuncData} {ps : List Str} {sp : Sp} {E : L2.St → XK} {m : Str} {o e : Expr} {es : List Expr} {ta : TE} {t : TA} {apos pos : Pos} {pl : Sem Bool} (he : PE X o ta) (c : Cls X.K C) (hm : Meth X.K C m f) (F : FnOk X.prog X.w X.K X.mg X.base CX k f fd ps sp) (hr : Room k X.A) (hb : Binds X.K fd ps []) (hx : ∀ σ, PassesAt CX X σ (E σ)) (ha : PA X (e :: es) t)
    (hst : starEach (e :: es) X.env = (false, eval e X.env) :: starEach es X.env := by rfl) (hpl : (backTo pos (starEach es X.env)).any (·.1) = false := by rfl)
    (ht : eval (.Call (.Attribute o m apos) (e :: es) [] pos) X.env = (do
      let ov ← eval o X.env
      standAt apos.atName
      let (f, first) ← holding [ov] (getMethod ov m pl)
      callWith pos f first (backTo pos (starEach (e :: es) X.env)) (backToKw pos (keywordEach [] X.env))) := by rfl) :
    PE X (.Call (.Attribute o m apos) (e :: es) [] pos) (fun σ H Q => ta σ H fun x H1 => ∃ a dx fs, x = .ref a ∧ H1 a = some (.ins C dx fs) ∧ fs.lookup m = none ∧ t σ H1 fun vs H2 => sp (x :: vs) H2 Q (E σ)) := by
  constructor
  intro pins s σ H Q I h
  refine PySem.W.methodCall_KW (pl := pl) (thn (he.run pins s σ H _ I h) ?_) ht
  rintro u s1 ⟨x, H1, I1, rx, a, dx, fs, ex, ea, l, q⟩
  subst ex
  cases (show u = Value.ref a from rx)
  refine getmeth_ok I1 ea c hm l ?_
  refine PySem.W.callWith_K (first := [.ref a]) (h₀ := X.base) I.ok.mod.kin hm.kp (thn (ha.run pos pins s1 σ H1 _ I1 q) ?_) hst hpl
  rintro us s2 ⟨vs, H2, I2, r, q2⟩
  refine ⟨I2.kIn, ?_⟩
  have rs : Vals (V.ref a :: vs) (Value.ref a :: us) := .cons rfl r
  have hl := rs.length.symm.trans (F.len _ _ _ _ q2)
  have b := hb s2 (Value.ref a :: us) I2.kIn (by rw [List.append_nil]; exact hl)
  rw [List.append_nil] at b
  refine wpAny_call (codeAny_mono (F.run X.A X.stack s2 H2 ⟨Value.ref a :: us, []⟩ (Value.ref a :: us) _ Q (E σ) hr I2.env0 b rs q2) ?_)
  rintro (er | fl) s' z
  · exact hx σ pins _ _ er s' I2 z
  · match fl, z with
    | .ret u', z => exact I2.after z
/-! ### trees written out -/
theorem stbN : Wl.StbR (fun H v t => NdAt H v t) := fun H H' v t s h => h.mono (DKeep.same s)
/-- a tree whose dicts are all new -/
def tND (G : L2.St → Hp → Prop) (t : Nd) : TE := fun σ H Q => G σ H ∧ ∀ v H', Same H H' → NdAt (newIn H H') v t → Q v H'
theorem newIn_at {H H' : Hp} {b : Addr} {o : HO} (h : newIn H H' b = some o) : H b = none ∧ H' b = some o := by
  unfold newIn at h
  split at h
  · exact ⟨by assumption, h⟩
  · cases h
theorem newIn_mk {H H' : Hp} {b : Addr} {o : HO} (h1 : H b = none) (h2 : H' b = some o) : newIn H H' b = some o := by
  unfold newIn
  rw [h1]
  exact h2
section
variable {X : Cx} {G : L2.St → Hp → Prop} {p1 p2 p3 pos : Pos} {k1 k2 : Str} {e e1 e2 : Expr} {t t1 t2 : Nd} {j1 j2 : Nat}
theorem pe_ndE (h : PE X e (tND G t)) : PE X e (Wl.tE G (fun H v t => NdAt H v t) t) := Wl.PE.weak h fun σ H Q g => ⟨g.1, fun v H' s n => g.2 v H' s (n.mono fun b kvs z => (newIn_at z).2)⟩
theorem pe_nd0 : PE X (.Dict [] [] pos) (tND G (.dir [])) :=
  Wl.PE.weak pe_dnewK fun σ H Q g p hp => g.2 _ _ (same_new hp) (.dir (newIn_mk hp upd_same) rfl (by simp) (by decide) (by simp) (fun i kv p h => by cases h))
theorem pe_ndI {i : Int} : PE X (.Constant (.int i) j1 pos) (tND G (.fil i)) := Wl.PE.weak pe_int fun σ H Q g => g.2 _ _ (Same.refl H) (.fil i)
theorem pe_nd1 (hG : Wl.Stb G) (h1 : PE X e1 (tND G t1)) (hk : k1.length ≤ 100000) : PE X (.Dict [some (.Constant (.str k1) j1 p1)] [e1] pos) (tND G (.dir [(k1, t1)])) :=
  Wl.PE.weak (pe_disp (pps_cons pe_str h1 pps_nil) rfl rfl (by simp) (by simp)) fun σ H Q g p hp => ⟨hG _ _ _ (same_new hp) g.1, fun v1 H1 s1 r1 => by
    have hp1 := s1 _ _ (upd_same (H := H) (a := p) (o := HO.dK []))
    refine ⟨hp1, [(Sum.inr k1, v1)], rfl, by show 1 ≤ 15; decide, g.2 _ _ (same_mut hp ((same_new hp).trans s1)) ?_⟩
    have r1' : NdAt (newIn H (upd H1 p (.dK [(Sum.inr k1, v1)]))) v1 t1 := r1.mono fun b kvs z => by
      obtain ⟨z1, z2⟩ := newIn_at z
      have nb : b ≠ p := fun e => by
        rw [e, upd_same] at z1
        cases z1
      rw [upd_ne nb] at z1
      exact newIn_mk z1 (by rw [upd_ne nb]; exact z2)
    refine .dir (kvs := [(Sum.inr k1, v1)]) (newIn_mk hp upd_same) rfl (by simp) (by show 1 < 64; decide) (by intro q hq; cases (List.mem_singleton.mp hq); exact hk) ?_
    intro i kv q h h'
    match i, h, h' with
    | 0, h, h' =>
      cases h
      cases h'
      exact r1'⟩
theorem pe_nd2 (hG : Wl.Stb G) (h1 : PE X e1 (tND G t1)) (h2 : PE X e2 (tND G t2)) (hk1 : k1.length ≤ 100000) (hk2 : k2.length ≤ 100000) (ne : k1 ≠ k2) : PE X (.Dict [some (.Constant (.str k1) j1 p1), some (.Constant (.str k2) j2 p2)] [e1, e2] pos) (tND G (.dir [(k1, t1), (k2, t2)])) :=
  Wl.PE.weak (pe_disp (pps_cons pe_str h1 (pps_cons pe_str h2 pps_nil)) rfl rfl (by simp) (by simp)) fun σ H Q g p hp => ⟨hG _ _ _ (same_new hp) g.1, fun v1 H1 s1 r1 => ⟨hG _ _ _ ((same_new hp).trans s1) g.1, fun v2 H2 s2 r2 => by
    have hp1 := s1 _ _ (upd_same (H := H) (a := p) (o := HO.dK []))
    have hp2 := s2 _ _ hp1
    have em : mergeK [] [((Sum.inr k1 : Key), v1), (Sum.inr k2, v2)] = [(Sum.inr k1, v1), (Sum.inr k2, v2)] := by
      simp [mergeK, putK, ne]
    refine ⟨hp2, [(Sum.inr k1, v1), (Sum.inr k2, v2)], rfl, by show 2 ≤ 15; decide, g.2 _ _ (same_mut hp ((same_new hp).trans (s1.trans s2))) ?_⟩
    rw [em]
    have r1' : NdAt (newIn H (upd H2 p (.dK [(Sum.inr k1, v1), (Sum.inr k2, v2)]))) v1 t1 := r1.mono fun b kvs z => by
      obtain ⟨z1, z2⟩ := newIn_at z
      have nb : b ≠ p := fun e => by
        rw [e, upd_same] at z1
        cases z1
      rw [upd_ne nb] at z1
      exact newIn_mk z1 (by rw [upd_ne nb]; exact s2 _ _ z2)
    have r2' : NdAt (newIn H (upd H2 p (.dK [(Sum.inr k1, v1), (Sum.inr k2, v2)]))) v2 t2 := r2.mono fun b kvs z => by
      obtain ⟨z1, z2⟩ := newIn_at z
      have nb : b ≠ p := fun e => by
        rw [e, hp1] at z1
        cases z1
      have z0 : H b = none := by
        cases e : H b with
        | none => rfl
        | some o =>
          rw [s1 _ _ (same_new hp _ _ e)] at z1
          cases z1
      exact newIn_mk z0 (by rw [upd_ne nb]; exact z2)
    refine .dir (kvs := [(Sum.inr k1, v1), (Sum.inr k2, v2)]) (newIn_mk hp upd_same) rfl (by simp [ne]) (by show 2 < 64; decide) ?_ ?_
    · intro q hq
      simp only [List.mem_cons, List.not_mem_nil, or_false] at hq
      rcases hq with rfl | rfl
      · exact hk1
      · exact hk2
    · intro i kv q h h'
      match i, h, h' with
      | 0, h, h' =>
        cases h
        cases h'
        exact r1'
      | 1, h, h' =>
        cases h
        cases h'
        exact r2'⟩⟩
end
def trees5 : List Nd := [.dir [("a", .dir [("b", .dir []), ("c", .fil 5)]), ("d", .dir [])], .dir [("a", .dir [("a", .dir [("a", .dir [])])])], .dir [], .dir [("a", .dir []), ("b", .dir [("c", .dir [])])], .dir [("e", .dir [])]]
theorem nv_some {ks : List (Str × Nd)} (h : (nv 9 (.dir ks) 0).isSome = true) : ∃ ks' t' n, Nd.dir ks = .dir ks' ∧ nv 9 (.dir ks') 0 = some (t', n) := by
  obtain ⟨⟨t', n⟩, e⟩ := Option.isSome_iff_exists.mp h
  exact ⟨ks, t', n, rfl, e⟩
theorem sort2 {k1 k2 : Str} {t1 t2 : Nd} (h : leS k1 k2 = true) : sortK [(k1, t1), (k2, t2)] = [(k1, t1), (k2, t2)] := List.mergeSort_of_pairwise (by simp [h])
theorem nv_dir (g : Nat) (ks : List (Str × Nd)) (n : Nat) : nv (g + 1) (.dir ks) n = if 61 < n + 1 then none else if ks.all fun p => nameB p.1 then (match nvs (nv g) (sortK ks) (n + 1) with
      | some (ks', m) => some (.dir ks', m)
      | none => none) else none := rfl
theorem nv_in : nv 8 (.dir [("b", .dir []), ("c", .fil 5)]) 1 = some (.dir [("b", .dir []), ("c", .fil 5)], 4) := by
  rw [nv_dir, if_neg (by decide), if_pos (by decide +kernel), sort2 (by decide +kernel)]
  kernel_rfl
theorem trees5_ok {t : Nd} (h : t ∈ trees5) : ∃ ks t' n, t = .dir ks ∧ nv 9 (.dir ks) 0 = some (t', n) := by
  simp only [trees5, List.mem_cons, List.not_mem_nil, or_false] at h
  rcases h with rfl | rfl | rfl | rfl | rfl
  · refine nv_some ?_
    rw [nv_dir, if_neg (by decide), if_pos (by decide +kernel), sort2 (by decide +kernel), nvs_cons]
    dsimp only
    rw [nv_in]
    kernel_rfl
  · exact nv_some (by decide +kernel)
  · exact nv_some (by decide +kernel)
  · refine nv_some ?_
    rw [nv_dir, if_neg (by decide), if_pos (by decide +kernel), sort2 (by decide +kernel)]
    kernel_rfl
  · exact nv_some (by decide +kernel)
theorem scLT : FnScope ["_law_state", "_law_some"] ["_law_state"] (defScope sLTree) := ⟨rfl, rfl, rfl, by decide +kernel, rfl, by decide +kernel, by decide +kernel⟩
def StAt (l : Addr) (H : Hp) : Prop := ∃ st, H l = some (.lst st) ∧ StOk st
theorem StAt.same {l : Addr} {H H' : Hp} (h : StAt l H) (s : Same H H') : StAt l H' := by
  obtain ⟨st, a, b⟩ := h
  exact ⟨st, s _ _ a, b⟩
def spLT : Sp := fun vs H Q _ => ∃ l, vs = [.ref l] ∧ StAt l H ∧ ∀ v t H', t ∈ trees5 → NdAt H' v t → But l H H' → StAt l H' → Q v H'
section
variable {P : Program} {w : World} {K : PySem.W.Frag} {mg : Str → Option Value} {base : Heap}
theorem ok_lt {f : Addr} {fd : FuncData} {k : Nat} (F : Fun K "_law_tree" "_law_tree" sLTree f fd) (Dg : Cl P w K mg base CX0 1 "_law_digit" ["_law_state", "_law_base"] spDigit) : FnOk P w K mg base CX0 (k + 2) f fd ["_law_state"] spLT := by
  refine F.ok scLT (fun vs H Q E h => ?_) (fun cdv A outer s H vs Q E hr h => ?_)
  · obtain ⟨l, rfl, _⟩ := h
    rfl
  · obtain ⟨l, rfl, hS, q⟩ := h
    have gs : Wl.Stb (fun σ H' => σ = [some (.ref l), none] ∧ StAt l H' ∧ But l H H') := fun σ H1 H2 s h => ⟨h.1, h.2.1.same s, h.2.2.trans (Same.but l s)⟩
    have h0 : Ho (cxOf CX0 P w K mg base ["_law_state", "_law_some"] "_law_tree" (defScope sLTree) f cdv A outer s H E).nox ((defBody sLTree).getD 0 (.Pass ⟨0, 0, 0, 0⟩)) (fun σ H' => σ = [some (.ref l), none] ∧ StAt l H' ∧ But l H H') (fun σ H' => ∃ v, σ = [some (.ref l), some v] ∧ StAt l H' ∧ But l H H' ∧ Wl.LsAt (fun H v t => NdAt H v t) H' v trees5) := by
      refine Wl.ho_set (i := 1) (w := trees5) (R := Wl.LsAt (fun H v t => NdAt H v t)) scLT.nd rfl (.inl rfl) (Wl.pe_l stbN (by decide) (Wl.pa_c gs stbN (pe_ndE (pe_nd2 gs (pe_nd2 gs pe_nd0 pe_ndI (by decide +kernel) (by decide +kernel) (by decide +kernel)) pe_nd0 (by decide +kernel) (by decide +kernel) (by decide +kernel)))
        (Wl.pa_c gs stbN (pe_ndE (pe_nd1 gs (pe_nd1 gs (pe_nd1 gs pe_nd0 (by decide +kernel)) (by decide +kernel)) (by decide +kernel)))
        (Wl.pa_c gs stbN (pe_ndE pe_nd0) (Wl.pa_c gs stbN (pe_ndE (pe_nd2 gs pe_nd0 (pe_nd1 gs pe_nd0 (by decide +kernel)) (by decide +kernel) (by decide +kernel) (by decide +kernel)))
        (Wl.pa_c gs stbN (pe_ndE (pe_nd1 gs pe_nd0 (by decide +kernel))) (Wl.pa_n _ _))))))) ?_
      rintro σ H1 v H2 ⟨rfl, h1, h2⟩ sm r
      exact ⟨v, rfl, h1.same sm, h2.trans (Same.but l sm), r⟩
    have h1 : HoR (cxOf CX0 P w K mg base ["_law_state", "_law_some"] "_law_tree" (defScope sLTree) f cdv A outer s H E).nox [(defBody sLTree).getD 1 (.Pass ⟨0, 0, 0, 0⟩)] (fun σ H' => ∃ v, σ = [some (.ref l), some v] ∧ StAt l H' ∧ But l H H' ∧ Wl.LsAt (fun H v t => NdAt H v t) H' v trees5) (fun v H' => Q v H') := by
      refine ⟨_, pss_one (ps_ret (pe_ix ix_list (pv 1) (pe_cl Dg hr (by omega) (by rfl) pass0 (pa_cons (pv 0) (pa_cons pe_int pa_nil))) (fun _ _ => rfl))), ?_⟩
      rintro D σ H1 ⟨v, rfl, ⟨st, hl, ok⟩, b, p, xs, rfl, hp, pd⟩ q1
      refine ⟨_, rfl, _, rfl, l, st, 5, rfl, hl, ok, by decide, by decide, fun d st2 H2 hd ok2 h2 b2 => ?_⟩
      have npl : p ≠ l := fun e => by
        rw [e, hl] at hp
        cases hp
        cases pd with
        | cons a r =>
          rcases ok with ⟨c, e⟩ | ⟨a', b', c', e⟩ <;> (cases e; cases a)
      have hd' : d < 5 := by
        have z : (d : Int) < 5 := hd
        omega
      have hlen : xs.length = 5 := Wl.pd_len (R := fun H v t => NdAt H v t) pd
      have hx : d < xs.length := by omega
      obtain ⟨t, ht, hn⟩ := pd_at pd (List.getElem?_eq_getElem hx)
      refine ⟨p, xs, d, xs[d], rfl, rfl, SqL.of (b2 p _ npl hp), atI_nat (List.getElem?_eq_getElem hx), q1 _ _ (q _ t H2 (List.mem_of_getElem? ht) (hn.mono (DKeep.but b2 hl (by intro kvs z; cases z))) (b.trans b2) ⟨st2, h2, ok2⟩)⟩
    obtain ⟨t, ht, hq⟩ := HoR.cons h0 h1
    exact ⟨t, ht, hq _ _ _ ⟨rfl, hS, But.refl _ _⟩ fun v H' z => z⟩
end
end Tx
set_option Elab.async false
set_option linter.all false
set_option maxRecDepth 100000
set_option maxHeartbeats 8000000
namespace Tx
open PySem PySem.Spec PyProof.Rows L2 Cm Ob
theorem op_mulS {X : Cx} : OpR X (binaryOp .Mult) (fun x y H Q => ∃ a n, x = .str a ∧ y = .int n ∧ MulOk a n ∧ Q (.str (Txt.mul a n)) H) := by
  intro pins s σ H x y v u Q I rx ry h
  obtain ⟨a, n, rfl, rfl, ok, q⟩ := h
  obtain ⟨t, rfl⟩ := rx
  obtain ⟨t', rfl⟩ := ry
  exact SB.mul ok fun t2 tk => ⟨.str (Txt.mul a n), H, I.tok _, ⟨_, rfl⟩, q⟩
/-- word * int(isinstance(e, nm)), e the handled exception -/
def tWord (K : PySem.W.Frag) (a C : Addr) (cls : Value) (d : Option Addr) (word : Str) : TE := fun σ H Q => ∃ D b, cls = .ref D ∧ d = none ∧ ExcC K D ∧ PySem.W.kitOne K (.ref D) (.ref C) = some b ∧ σ[3]? = some (some (.ref a)) ∧ Q (.str (if b then word else Str.empty)) H
theorem pe_word {X : Cx} {a C : Addr} {oe : Obj} {cls : Value} {d : Option Addr} {pn : List (Addr × Obj)} {nm word : Str} {p1 p2 p3 p4 p5 p6 p7 : Pos} {j : Nat} (hz : Zc cls d oe) (hf : ∃ vs, oe.data = .fields vs) (hv : PE (X.suite a ((a, oe) :: pn)) (.Name "e" p4) (tVar 3)) (gI : Gl (X.suite a ((a, oe) :: pn)) "int") (gS : Gl (X.suite a ((a, oe) :: pn)) "isinstance") (gC : Gl (X.suite a ((a, oe) :: pn)) nm) (mI : X.mg "int" = none) (mS : X.mg "isinstance" = none) (mC : X.mg nm = some (.ref C)) (hw : word.length ≤ 100) (hd : (nm == ("__debug__" : Str)) = false := by decide) :
    PE (X.suite a ((a, oe) :: pn)) (.BinOp (.Constant (.str word) j p1) .Mult (.Call (.Name "int" p2) [.Call (.Name "isinstance" p3) [.Name "e" p4, .Name nm p5] [] p6] [] p7) pos) (tWord X.K a C cls d word) := by
  constructor
  intro pins s σ H Q I h
  obtain ⟨D, b, rfl, rfl, xc, k, ei, q⟩ := h
  refine (pe_op op_mulS pe_str (pe_callTy call_int1 gI mI (by decide +kernel) (pa_cons (pe_callB (call_isE xc hz hf) gS mS PyProof.Rows.boot_isinstance (pa_cons hv (pa_cons (pe_glob (v := .ref C) gC mC rfl hd) pa_nil))) pa_nil))).run pins s σ H Q I ?_
  refine ⟨_, ei, .ref C, .ref C, b, rfl, fun u r => r, k, .inr ⟨b, rfl, word, _, rfl, rfl, ?_, ?_⟩⟩
  · cases b
    · exact mulOk_of 100 1 hw (by decide) (by decide) (by decide) (by decide)
    · exact mulOk_of 100 1 hw (by decide) (by decide) (by decide) (by decide)
  · cases b
    · exact q
    · exact q
/-- the three errors, as they are caught and asked -/
structure E3 (K : PySem.W.Frag) (mg : Str → Option Value) (CMo CD CS CN : Addr) : Prop where
  gM : mg "MountError" = some (.ref CMo)
  gD : mg "NoDeed" = some (.ref CD)
  gS : mg "NoSpace" = some (.ref CS)
  gN : mg "NoTree" = some (.ref CN)
  xD : ExcC K CD
  xS : ExcC K CS
  xN : ExcC K CN
  mD : PySem.W.exmOne K (.ref CD) (.ref CMo) = some true
  mS : PySem.W.exmOne K (.ref CS) (.ref CMo) = some true
  mN : PySem.W.exmOne K (.ref CN) (.ref CMo) = some true
  dd : PySem.W.kitOne K (.ref CD) (.ref CD) = some true
  ds : PySem.W.kitOne K (.ref CD) (.ref CS) = some false
  dn : PySem.W.kitOne K (.ref CD) (.ref CN) = some false
  sd : PySem.W.kitOne K (.ref CS) (.ref CD) = some false
  ss : PySem.W.kitOne K (.ref CS) (.ref CS) = some true
  sn : PySem.W.kitOne K (.ref CS) (.ref CN) = some false
  nd : PySem.W.kitOne K (.ref CN) (.ref CD) = some false
  ns : PySem.W.kitOne K (.ref CN) (.ref CS) = some false
  nn : PySem.W.kitOne K (.ref CN) (.ref CN) = some true
theorem scNam : FnScope ["_law_world", "_law_deed", "_law_found", "e"] ["_law_world", "_law_deed"] (defScope sNamed) := ⟨rfl, rfl, rfl, by decide +kernel, rfl, by decide +kernel, by decide +kernel⟩
def spNam (CW CT CM : Addr) : Sp := fun vs H Q _ => ∃ x dx l1 l2 a z mo B v t, vs = [.ref x, v] ∧ WAt H CW CT CM a z mo x dx l1 l2 B ∧ TvAt H v t ∧ (deedB t = false → ∀ H', Same H H' → Q (.str "deed") H') ∧
  (deedB t = true → ∃ d wd i rest, v = .ref d ∧ H d = some (.tup (.str wd :: .int i :: rest)) ∧ rest ≠ [] ∧ rest.length ≤ 100 ∧ (i ≠ 0 → ∀ H', Same H H' → Q (.str "space") H') ∧ (i = 0 → wd = "mount" ∧ ∃ tv p, rest = [tv, p] ∧ MtBad H z tv ∧ ∀ H', Same H H' → Q (.str "tree") H'))
section
variable {P : Program} {w : World} {K : PySem.W.Frag} {mg : Str → Option Value} {base : Heap} {CM CT CW CMo CD CS CN : Addr}
theorem ok_nam {f fD : Addr} {fd fdD : FuncData} {k : Nat} (F : Fun K "_law_named" "_law_named" sNamed f fd) (B' : Bi mg) (cW : Cn K CW woN) (e : E3 K mg CMo CD CS CN) (mD : Meth K CW "do" fD) (FD : FnOk P w K mg base (L2.CX P w) 6 fD fdD ["self", "deed"] (spDo CW CT CM CD CS CN)) (bD : Binds K fdD ["self", "deed"] []) : FnOk P w K mg base CX0 (k + 7) f fd ["_law_world", "_law_deed"] (spNam CW CT CM) := by
  refine F.ok scNam (fun vs H Q E h => ?_) (fun cdv A outer s H vs Q E hr h => ?_)
  · obtain ⟨x, dx, l1, l2, a, z, mo, B, v, t, rfl, _⟩ := h
    rfl
  · obtain ⟨x, dx, l1, l2, a, z, mo, B, v, t, rfl, W, ht, q1, q2⟩ := h
    have hr6 : Room 6 (cxOf CX0 P w K mg base ["_law_world", "_law_deed", "_law_found", "e"] "_law_named" (defScope sNamed) f cdv A outer s H E).nox.A := hr.mono (by omega)
    refine ⟨_, pss_cons (ps_set (i := 2) scNam.nd rfl (.inl rfl) pe_str) (pss_cons
      (ps_try_as (i := 3) rfl rfl scNam.nd rfl rfl ⟨rfl, by decide, .inl e.gM⟩ takes0 (fun W pn xe tk _ => pss_one (ps_expr (pe_methT (E := WE W) (pv 0) cW.cl mD FD hr6 bD (fun σ => passAt tk σ) (pa_cons (pv 1) pa_nil))))
        (fun a oe cls d pn hz hf => pss_cons (ps_set (i := 2) scNam.nd rfl (.inl rfl) (pe_op op_add_str (pe_word hz hf (pv 3) (by rfl) (by rfl) (by rfl) B'.int B'.isin e.gD (by decide +kernel)) (pe_word hz hf (pv 3) (by rfl) (by rfl) (by rfl) B'.int B'.isin e.gS (by decide +kernel))))
          (pss_one (ps_set (i := 2) scNam.nd rfl (.inl rfl) (pe_op op_add_str (pv 2) (pe_word hz hf (pv 3) (by rfl) (by rfl) (by rfl) B'.int B'.isin e.gN (by decide +kernel)))))))
      (pss_one (ps_ret (pv 2)))), ?_⟩
    have z10 : ∀ n : Nat, n ≤ 1000 → n ≤ sizeLine := fun n h => Nat.le_of_lt (small1000 h)
    refine ⟨_, rfl, x, dx, _, rfl, W.hx, rfl, _, rfl, x, dx, l1, l2, a, z, mo, B, v, t, rfl, W, ht, fun hb H1 s1 => ?_, fun hb => ?_⟩
    · refine ⟨true, e.mD, fun _ a1 ha1 => ?_, fun z => Bool.noConfusion z⟩
      refine ⟨CD, true, rfl, rfl, e.xD, e.dd, rfl, CD, false, rfl, rfl, e.xD, e.ds, rfl, _, _, rfl, rfl, z10 _ (by decide +kernel), ?_⟩
      exact ⟨_, rfl, CD, false, rfl, rfl, e.xD, e.dn, rfl, _, _, rfl, rfl, z10 _ (by decide +kernel), _, rfl, q1 hb H1 s1⟩
    · obtain ⟨d, wd, i, rest, rfl, hd, hne, hlen, e1, e2⟩ := q2 hb
      refine ⟨d, wd, i, rest, rfl, hd, hne, hlen, fun hi H1 s1 => ?_, fun hi => ?_⟩
      · refine ⟨true, e.mS, fun _ a1 ha1 => ?_, fun z => Bool.noConfusion z⟩
        refine ⟨CS, false, rfl, rfl, e.xS, e.sd, rfl, CS, true, rfl, rfl, e.xS, e.ss, rfl, _, _, rfl, rfl, z10 _ (by decide +kernel), ?_⟩
        exact ⟨_, rfl, CS, false, rfl, rfl, e.xS, e.sn, rfl, _, _, rfl, rfl, z10 _ (by decide +kernel), _, rfl, e1 hi H1 s1⟩
      · obtain ⟨rfl, tv, p, rfl, hm, qE⟩ := e2 hi
        refine ⟨rfl, tv, p, rfl, hm, fun H1 s1 => ⟨true, e.mN, fun _ a1 ha1 => ?_, fun z => Bool.noConfusion z⟩⟩
        refine ⟨CN, false, rfl, rfl, e.xN, e.nd, rfl, CN, false, rfl, rfl, e.xN, e.ns, rfl, _, _, rfl, rfl, z10 _ (by decide +kernel), ?_⟩
        exact ⟨_, rfl, CN, true, rfl, rfl, e.xN, e.nn, rfl, _, _, rfl, rfl, z10 _ (by decide +kernel), _, rfl, qE H1 s1⟩
end
end Tx
set_option Elab.async false
set_option linter.all false
set_option maxRecDepth 100000
set_option maxHeartbeats 8000000
namespace Tx
open PySem PySem.Spec PyProof.Rows L2 Cm Ob
/-! ### tuples told by their entries -/
def TupE : Hp → V → List EV → Prop := fun H v es => ∃ p xs, v = .ref p ∧ H p = some (.tup xs) ∧ Paired (EvAt H) xs es
theorem stbEv : Wl.StbR (fun H v e => EvAt H v e) := fun H H' v e s h => EvAt.same h s
theorem stbT : Wl.StbR TupE := fun H H' v es s ⟨p, xs, e, h, q⟩ => ⟨p, xs, e, s _ _ h, pdE s q⟩
theorem pd_drop {α : Type} {F : V → α → Prop} : ∀ (n : Nat) {xs : List V} {ws : List α}, Paired F xs ws → Paired F (xs.drop n) (ws.drop n)
  | 0, _, _, h => h
  | n + 1, _, _, .nil => .nil
  | n + 1, _, _, .cons _ r => pd_drop n r
theorem pd_take {α : Type} {F : V → α → Prop} : ∀ (n : Nat) {xs : List V} {ws : List α}, Paired F xs ws → Paired F (xs.take n) (ws.take n)
  | 0, _, _, _ => .nil
  | n + 1, _, _, .nil => .nil
  | n + 1, _, _, .cons a r => .cons a (pd_take n r)
def cutE (es : List EV) (lo hi : Option Int) : List EV := (es.drop (HT.sIx es.length 0 lo)).take (HT.sIx es.length es.length hi - HT.sIx es.length 0 lo)
theorem pd_cut {H : Hp} {xs : List V} {es : List EV} (lo hi : Option Int) (p : Paired (EvAt H) xs es) : Paired (EvAt H) (cutV xs lo hi) (cutE es lo hi) := by
  have e : xs.length = es.length := Paired.length p
  unfold cutV cutE
  rw [e]
  exact pd_take _ (pd_drop _ p)
/-- what is no deed -/
def NoD : Hp → V → Unit → Prop := fun H v _ => ∃ t, TvAt H v t ∧ deedB t = false
theorem stbD : Wl.StbR NoD := fun H H' v _ s ⟨t, h, b⟩ => ⟨t, h.same s, b⟩
def headOk (es : List EV) : Bool := match es with
  | .str z :: _ => decide (z ∈ formsL.map (·.1)) || decide (z ∈ noWords)
  | _ => true
def badE (es : List EV) : Bool := !deedB (.tup es) && headOk es && decide (es.length ≤ 900)
section
variable {X : Cx} {G : L2.St → Hp → Prop} {e e1 e2 : Expr} {es es1 es2 : List EV} {ev : EV} {pos p : Pos} {ts : List Expr} {k : Nat}
theorem pe_tupE (hz : es.length ≤ 900) (h : PA X ts (Wl.tEs G (fun H v e => EvAt H v e) es)) : PE X (.Tuple ts k pos) (Wl.tE G TupE es) :=
  Wl.PE.weak (pe_tup h) fun σ H Q g => ⟨g.1, fun xs H1 s1 r1 => ⟨by rw [show xs.length = es.length from Paired.length r1, sizeLine_eq]; omega, fun l hl => g.2 _ _ (s1.trans (same_new hl)) ⟨l, xs, rfl, upd_same, pdE (same_new hl) r1⟩⟩⟩
theorem pe_catE (hG : Wl.Stb G) (hz : es1.length + es2.length ≤ 900) (h1 : PE X e1 (Wl.tE G TupE es1)) (h2 : PE X e2 (Wl.tE G TupE es2)) : PE X (.BinOp e1 .Add e2 pos) (Wl.tE G TupE (es1 ++ es2)) :=
  Wl.PE.weak (pe_op op_catA h1 h2) fun σ H Q g => ⟨g.1, fun v1 H1 s1 r1 => ⟨hG _ _ _ s1 g.1, fun v2 H2 s2 r2 => by
    obtain ⟨p1, xs, rfl, hp1, q1⟩ := stbT _ _ _ _ s2 r1
    obtain ⟨p2, ys, rfl, hp2, q2⟩ := r2
    have l1 : xs.length = es1.length := Paired.length q1
    have l2 : ys.length = es2.length := Paired.length q2
    have sm := s1.trans s2
    refine ⟨p1, p2, xs, ys, rfl, rfl, SqT.of hp1, SqT.of hp2, by rw [sizeLine_eq]; omega, fun e => ?_, fun n e => ?_, fun _ _ l hl => ?_⟩
    · subst e
      cases q1
      exact g.2 _ _ sm ⟨p2, ys, rfl, hp2, q2⟩
    · subst e
      cases q2
      rw [List.append_nil] at g
      exact g.2 _ _ sm ⟨p1, xs, rfl, hp1, q1⟩
    · exact g.2 _ _ (sm.trans (same_new hl)) ⟨l, _, rfl, upd_same, pdE (same_new hl) (Wl.pd_app q1 q2)⟩⟩⟩
theorem pe_sliceE {lo hi : Option Expr} {tl th : TO} {l h : Option Int} {p2 : Pos} (h1 : PE X e (Wl.tE G TupE es)) (hl : PO X lo tl) (hh : PO X hi th) (el : ∀ σ H (Q : Option Int → Hp → Prop), Q l H → tl σ H Q) (eh : ∀ σ H (Q : Option Int → Hp → Prop), Q h H → th σ H Q) : PE X (.Subscript e (.Slice lo hi none p2) pos) (Wl.tE G TupE (cutE es l h)) :=
  Wl.PE.weak (pe_slice sl_tupA h1 hl hh) fun σ H Q g => ⟨g.1, fun v H1 s1 r1 => el _ _ _ (eh _ _ _ (by
    obtain ⟨p1, xs, rfl, hp1, q1⟩ := r1
    have l1 : xs.length = es.length := Paired.length q1
    refine ⟨p1, xs, rfl, SqT.of hp1, fun z => ?_, fun _ q hq => g.2 _ _ (s1.trans (same_new hq)) ⟨q, _, rfl, upd_same, pdE (same_new hq) (pd_cut l h q1)⟩⟩
    have ec : cutE es l h = es := by
      unfold cutE
      rw [l1] at z
      rw [z.1, z.2]
      exact List.take_of_length_le (by simp)
    rw [ec] at g
    exact g.2 _ _ s1 ⟨p1, xs, rfl, hp1, q1⟩))⟩
theorem pe_bad (h : PE X e (Wl.tE G TupE es)) (hb : badE es = true) : PE X e (Wl.tE G NoD ()) :=
  Wl.PE.weak h fun σ H Q g => ⟨g.1, fun v H1 s1 ⟨p, xs, ev, hp, q⟩ => g.2 _ _ s1 (by
    simp only [badE, Bool.and_eq_true, decide_eq_true_eq, Bool.not_eq_true'] at hb
    refine ⟨.tup es, ⟨p, xs, ev, hp, q, hb.2, fun z hz => ?_⟩, hb.1.1⟩
    have ho := hb.1.2
    cases es with
    | nil => cases hz
    | cons a r =>
      cases hz
      simp only [headOk, Bool.or_eq_true, decide_eq_true_eq] at ho
      exact ho)⟩
/-- entries -/
theorem pe_evS {z : Str} {j : Nat} (hz : z.length ≤ 100000) : PE X (.Constant (.str z) j pos) (Wl.tE G (fun H v e => EvAt H v e) (.str z)) := Wl.PE.weak pe_str fun σ H Q g => g.2 _ _ (Same.refl H) ⟨rfl, hz⟩
theorem pe_evI {i : Int} {j : Nat} : PE X (.Constant (.int i) j pos) (Wl.tE G (fun H v e => EvAt H v e) (.int i)) := Wl.PE.weak pe_int fun σ H Q g => g.2 _ _ (Same.refl H) rfl
theorem pe_evN {j : Nat} : PE X (.Constant .none j pos) (Wl.tE G (fun H v e => EvAt H v e) .oth) := Wl.PE.weak pe_non fun σ H Q g => g.2 _ _ (Same.refl H) (.inl rfl)
theorem pe_evL : PE X (.List [] pos) (Wl.tE G (fun H v e => EvAt H v e) .oth) := Wl.PE.weak (pe_lst pa_nil) fun σ H Q g => ⟨by show 0 ≤ sizeLine; decide, fun l hl => g.2 _ _ (same_new hl) (.inr ⟨l, rfl, .inl ⟨_, upd_same⟩⟩)⟩
theorem pe_evV {i : Nat} {x : Str} (h : PE X (.Name x p) (tVar i)) (hi : ∀ σ H, G σ H → ∃ v, σ[i]? = some (some v) ∧ EvAt H v ev) : PE X (.Name x p) (Wl.tE G (fun H v e => EvAt H v e) ev) := Wl.pe_n h hi
end
/-! ### _law_good -/
def goodE (kd : Str) (b : Bool) : List (List EV) := [[.str "mount", .int 0, .str "t", .str "/"], [.str "bind", .int 0, .str "/", .str "/"], [.str "bind all", .int 0, .str "/", .str "/"], [.str "move", .int 0, .str "/", .str "/"], [.str "unmount", .int 0, .str "/"], [.str "unmount all", .int 0, .str "/"],
  [.str "make", .int 0, .str "/", .str kd], [.str "make all", .int 0, .str "/", .str kd], [.str "clone", .int 0, .bl b]]
theorem scGood : FnScope ["_law_space", "_law_way", "_law_kind", "_law_some"] ["_law_space", "_law_way"] (defScope sGood) := ⟨rfl, rfl, rfl, by decide +kernel, rfl, by decide +kernel, by decide +kernel⟩
def spGood : Sp := fun vs H Q _ => ∃ w : Nat, vs = [.int 0, .int w] ∧ w < 4 ∧ ∀ kd b u H', kd ∈ kindsL → Same H H' → Wl.LsAt TupE H' u (goodE kd b) → Q u H'
def GG (w : Nat) (kd : Str) (H0 : Hp) : L2.St → Hp → Prop := fun σ H => (∃ x, σ = [some (.int 0), some (.int w), some (.str kd), x]) ∧ Same H0 H
section
variable {P : Program} {w : World} {K : PySem.W.Frag} {mg : Str → Option Value} {base : Heap}
theorem ok_good {f : Addr} {fd : FuncData} {k : Nat} (F : Fun K "_law_good" "_law_good" sGood f fd) (B' : Bi mg) : FnOk P w K mg base CX0 (k + 1) f fd ["_law_space", "_law_way"] spGood := by
  refine F.ok scGood (fun vs H Q E h => ?_) (fun cdv A outer s H vs Q E hr h => ?_)
  · obtain ⟨n, rfl, _⟩ := h
    rfl
  · obtain ⟨n, rfl, hn, q⟩ := h
    have hk : ∃ kd, kindsL[n]? = some kd := ⟨_, List.getElem?_eq_getElem (show n < 4 from hn)⟩
    obtain ⟨kd, hkd⟩ := hk
    have hkm : kd ∈ kindsL := List.mem_of_getElem? hkd
    have hkl : kd.length ≤ 100000 := by
      have : ∀ x ∈ kindsL, x.length ≤ 100000 := by decide +kernel
      exact this kd hkm
    have h0 : Ho (cxOf CX0 P w K mg base ["_law_space", "_law_way", "_law_kind", "_law_some"] "_law_good" (defScope sGood) f cdv A outer s H E).nox ((defBody sGood).getD 0 (.Pass ⟨0, 0, 0, 0⟩)) (fun σ H' => σ = [some (.int 0), some (.int n), none, none] ∧ Same H H') (GG n kd H) := by
      refine ⟨_, ps_set (i := 2) scGood.nd rfl (.inl rfl) (pe_ix ix_list (pe_lst (pa_cons pe_str (pa_cons pe_str (pa_cons pe_str (pa_cons pe_str pa_nil))))) (pe_op op_mod (pe_callTy call_int1 (by rfl) B'.int (by decide +kernel) (pa_cons (pv 1) pa_nil)) pe_int) (fun _ _ => rfl)), ?_⟩
      rintro D σ H1 ⟨rfl, sm⟩ q1
      refine ⟨by show 4 ≤ sizeLine; decide, fun p hp => ⟨_, rfl, .inl ⟨_, rfl, _, _, rfl, rfl, (by show (0 : Int) < 4; decide), ?_⟩⟩⟩
      have em : ((n : Int) % 4) = (n : Int) := Int.emod_eq_of_lt (by omega) (by omega)
      dsimp only
      rw [em]
      refine ⟨p, _, n, .str kd, rfl, rfl, SqL.of upd_same, atI_nat ?_, q1 _ _ ⟨⟨_, rfl⟩, sm.trans (same_new hp)⟩⟩
      have : (kindsL.map V.str)[n]? = some (.str kd) := by
        rw [List.getElem?_map, hkd]
        rfl
      exact this
    have gs : Wl.Stb (GG n kd H) := fun σ H1 H2 s ⟨e, z⟩ => ⟨e, z.trans s⟩
    have sg : ∀ ws, Wl.Stb (Wl.Gn (GG n kd H) (Wl.LsAt TupE) 3 ws) := fun ws => Wl.stbG gs (Wl.stbL stbT)
    have v0 : ∀ {G : L2.St → Hp → Prop}, (∀ σ H1, G σ H1 → GG n kd H σ H1) → ∀ σ H1, G σ H1 → ∃ v, σ[0]? = some (some v) ∧ EvAt H1 v (.int 0) := fun h σ H1 g => by
      obtain ⟨⟨x, rfl⟩, _⟩ := h σ H1 g
      exact ⟨_, rfl, rfl⟩
    have v2 : ∀ {G : L2.St → Hp → Prop}, (∀ σ H1, G σ H1 → GG n kd H σ H1) → ∀ σ H1, G σ H1 → ∃ v, σ[2]? = some (some v) ∧ EvAt H1 v (.str kd) := fun h σ H1 g => by
      obtain ⟨⟨x, rfl⟩, _⟩ := h σ H1 g
      exact ⟨_, rfl, rfl, hkl⟩
    have st0 : ∀ ws σ H1 u H', GG n kd H σ H1 → Same H1 H' → Wl.LsAt TupE H' u ws → Wl.Gn (GG n kd H) (Wl.LsAt TupE) 3 ws (σ.set 3 (some u)) H' := by
      rintro ws σ H1 u H' ⟨⟨x, rfl⟩, z⟩ sm r
      exact ⟨⟨⟨_, rfl⟩, z.trans sm⟩, u, rfl, r⟩
    have g3 : ∀ ws σ H1, Wl.Gn (GG n kd H) (Wl.LsAt TupE) 3 ws σ H1 → ∃ u, σ[3]? = some (some u) ∧ Wl.LsAt TupE H1 u ws := fun ws σ H1 g => g.2
    have c1 : ("t" : Str).length ≤ 100000 := by decide +kernel
    have c2 : ("/" : Str).length ≤ 100000 := by decide +kernel
    have i0 : ∀ σ H1, GG n kd H σ H1 → GG n kd H σ H1 := fun _ _ h => h
    have i1 : ∀ ws σ H1, Wl.Gn (GG n kd H) (Wl.LsAt TupE) 3 ws σ H1 → GG n kd H σ H1 := fun ws _ _ h => h.1
    have hb : ∀ ws {q1 q2 q3 q4 q5 q6 q7 : Pos} {j1 j2 : Nat}, PE (cxOf CX0 P w K mg base ["_law_space", "_law_way", "_law_kind", "_law_some"] "_law_good" (defScope sGood) f cdv A outer s H E).nox (.Compare (.BinOp (.Call (.Name "int" q1) [.Name "_law_way" q2] [] q3) .Mod (.Constant (.int 2) j1 q4) q5) [.Eq] [.Constant (.int 0) j2 q6] q7) (Wl.tE (Wl.Gn (GG n kd H) (Wl.LsAt TupE) 3 ws) (fun H v e => EvAt H v e) (.bl (decide (V.int ((n : Int) % 2) = V.int 0)))) := fun ws {q1 q2 q3 q4 q5 q6 q7 j1 j2} =>
      Wl.PE.weak (pe_cmpR op_eq (pe_op op_mod (pe_callTy call_int1 (by rfl) B'.int (by decide +kernel) (pa_cons (pv 1) pa_nil)) pe_int) pe_int (nomark _)) fun σ H1 Q1 g => by
        obtain ⟨⟨x, rfl⟩, _⟩ := i1 ws σ H1 g.1
        exact ⟨_, rfl, .inl ⟨_, rfl, _, _, rfl, rfl, (by show (0 : Int) < 2; decide), rfl, g.2 _ _ (Same.refl H1) rfl⟩⟩
    obtain ⟨t, ht, hq⟩ : HoR (cxOf CX0 P w K mg base ["_law_space", "_law_way", "_law_kind", "_law_some"] "_law_good" (defScope sGood) f cdv A outer s H E).nox (defBody sGood) (fun σ H' => σ = [some (.int 0), some (.int n), none, none] ∧ Same H H') (fun u H' => Same H H' ∧ Wl.LsAt TupE H' u (goodE kd (decide (V.int ((n : Int) % 2) = V.int 0)))) := by
      refine HoR.cons h0 ?_
      refine HoR.cons (Wl.ho_set (i := 3) scGood.nd rfl (.inl rfl) (Wl.pe_l stbT (by show 3 ≤ 1000; decide) (Wl.pa_c gs stbT (pe_tupE (by show 4 ≤ 900; decide) (Wl.pa_c gs stbEv (pe_evS (by decide +kernel)) (Wl.pa_c gs stbEv (pe_evV (pv 0) (v0 i0)) (Wl.pa_c gs stbEv (pe_evS (by decide +kernel)) (Wl.pa_c gs stbEv (pe_evS (by decide +kernel)) (Wl.pa_n _ _)))))) (Wl.pa_c gs stbT (pe_tupE (by show 4 ≤ 900; decide) (Wl.pa_c gs stbEv (pe_evS (by decide +kernel)) (Wl.pa_c gs stbEv (pe_evV (pv 0) (v0 i0)) (Wl.pa_c gs stbEv (pe_evS (by decide +kernel)) (Wl.pa_c gs stbEv (pe_evS (by decide +kernel)) (Wl.pa_n _ _)))))) (Wl.pa_c gs stbT (pe_tupE (by show 4 ≤ 900; decide) (Wl.pa_c gs stbEv (pe_evS (by decide +kernel)) (Wl.pa_c gs stbEv (pe_evV (pv 0) (v0 i0)) (Wl.pa_c gs stbEv (pe_evS (by decide +kernel)) (Wl.pa_c gs stbEv (pe_evS (by decide +kernel)) (Wl.pa_n _ _)))))) (Wl.pa_n _ _))))) (st0 _)) ?_
      refine HoR.cons (Wl.ho_set (i := 3) scGood.nd rfl (.inl rfl) (Wl.pe_cat (sg _) stbT (by show 3 + 3 ≤ 1000; decide) (Wl.pe_n (pv 3) (g3 _)) (Wl.pe_l stbT (by show 3 ≤ 1000; decide) (Wl.pa_c (sg _) stbT (pe_tupE (by show 4 ≤ 900; decide) (Wl.pa_c (sg _) stbEv (pe_evS (by decide +kernel)) (Wl.pa_c (sg _) stbEv (pe_evV (pv 0) (v0 (i1 _))) (Wl.pa_c (sg _) stbEv (pe_evS (by decide +kernel)) (Wl.pa_c (sg _) stbEv (pe_evS (by decide +kernel)) (Wl.pa_n _ _)))))) (Wl.pa_c (sg _) stbT (pe_tupE (by show 3 ≤ 900; decide) (Wl.pa_c (sg _) stbEv (pe_evS (by decide +kernel)) (Wl.pa_c (sg _) stbEv (pe_evV (pv 0) (v0 (i1 _))) (Wl.pa_c (sg _) stbEv (pe_evS (by decide +kernel)) (Wl.pa_n _ _))))) (Wl.pa_c (sg _) stbT (pe_tupE (by show 3 ≤ 900; decide) (Wl.pa_c (sg _) stbEv (pe_evS (by decide +kernel)) (Wl.pa_c (sg _) stbEv (pe_evV (pv 0) (v0 (i1 _))) (Wl.pa_c (sg _) stbEv (pe_evS (by decide +kernel)) (Wl.pa_n _ _))))) (Wl.pa_n _ _)))))) (fun σ H1 u H' g sm r => st0 _ σ H1 u H' g.1 sm r)) ?_
      exact Wl.ho_ret (Wl.pe_cat (sg _) stbT (by show 6 + 3 ≤ 1000; decide) (Wl.pe_n (pv 3) (g3 _)) (Wl.pe_l stbT (by show 3 ≤ 1000; decide) (Wl.pa_c (sg _) stbT (pe_tupE (by show 4 ≤ 900; decide) (Wl.pa_c (sg _) stbEv (pe_evS (by decide +kernel)) (Wl.pa_c (sg _) stbEv (pe_evV (pv 0) (v0 (i1 _))) (Wl.pa_c (sg _) stbEv (pe_evS (by decide +kernel)) (Wl.pa_c (sg _) stbEv (pe_evV (pv 2) (v2 (i1 _))) (Wl.pa_n _ _)))))) (Wl.pa_c (sg _) stbT (pe_tupE (by show 4 ≤ 900; decide) (Wl.pa_c (sg _) stbEv (pe_evS (by decide +kernel)) (Wl.pa_c (sg _) stbEv (pe_evV (pv 0) (v0 (i1 _))) (Wl.pa_c (sg _) stbEv (pe_evS (by decide +kernel)) (Wl.pa_c (sg _) stbEv (pe_evV (pv 2) (v2 (i1 _))) (Wl.pa_n _ _)))))) (Wl.pa_c (sg _) stbT (pe_tupE (by show 3 ≤ 900; decide) (Wl.pa_c (sg _) stbEv (pe_evS (by decide +kernel)) (Wl.pa_c (sg _) stbEv (pe_evV (pv 0) (v0 (i1 _))) (Wl.pa_c (sg _) stbEv (hb _) (Wl.pa_n _ _))))) (Wl.pa_n _ _)))))) fun σ H1 u H' g sm r => ⟨g.1.2.trans sm, r⟩
    exact ⟨t, ht, hq _ _ _ ⟨rfl, Same.refl H⟩ fun u H' z => q kd _ u H' hkm z.1 z.2⟩
end
end Tx
set_option Elab.async false
set_option linter.all false
set_option maxRecDepth 100000
set_option maxHeartbeats 8000000
namespace Tx
open PySem PySem.Spec PyProof.Rows L2 Cm Ob
/-! ### _law_bent -/
def pathsE : List EV := [.str "a", .str "", .str "//", .str "/a/", .oth, .int 5, .str "/A", .oth, .str "/abcdefghi"]
def numsE : List EV := [.oth, .str "0", .bl true, .oth]
def hdS (es : List EV) : Str := match es with | .str z :: _ => z | _ => ""
def tlE (es : List EV) : List EV := cutE es (some 1) none
def inE (es : List EV) : List EV := cutE es none (some (-1))
def chk (P : List EV → Bool) : Bool := kindsL.all fun kd => [true, false].all fun b => (goodE kd b).all P
theorem chk_at {P : List EV → Bool} (h : chk P = true) {kd : Str} {b : Bool} {es : List EV} (hk : kd ∈ kindsL) (he : es ∈ goodE kd b) : P es = true := by
  have h1 := List.all_eq_true.mp h kd hk
  have h2 := List.all_eq_true.mp h1 b (by cases b <;> simp)
  exact List.all_eq_true.mp h2 es he
theorem chk0 : chk (fun es => badE (es ++ [.str "/"]) && (badE (inE es) && (badE ([.oth] ++ tlE es) && (badE ([.str (hdS es ++ "s")] ++ tlE es) && badE ([.str "Mount"] ++ tlE es))))) = true := by decide +kernel
theorem chk1 : chk (fun es => numsE.all fun ne => badE ([.str (hdS es), ne] ++ cutE (tlE es) (some 1) none)) = true := by decide +kernel
theorem chk2 : chk (fun es => decide (hdS es ≠ "clone") || (badE [.str (hdS es), .int 0, .int 1] && (badE [.str (hdS es), .int 0, .oth] && badE [.str (hdS es), .int 0, .str "yes"]))) = true := by decide +kernel
theorem chk3 : chk (fun es => decide (hdS es ≠ "make" ∧ hdS es ≠ "make all") || (badE [.str (hdS es), .int 0, .str "/", .str "private"] && (badE [.str (hdS es), .int 0, .str "/", .oth] && pathsE.all fun pe => badE [.str (hdS es), .int 0, pe, .str "alone"]))) = true := by decide +kernel
theorem chk4 : chk (fun es => decide (hdS es = "clone" ∨ hdS es = "make" ∨ hdS es = "make all") || pathsE.all fun pe => badE (inE es ++ [pe])) = true := by decide +kernel
theorem chk5 : chk (fun es => decide (es.length ≤ 5) && (decide ((hdS es).length ≤ 100) && (decide (es.head? = some (.str (hdS es))) && decide (es.length ≥ 3)))) = true := by decide +kernel
theorem bad0 : badE [] = true := by decide +kernel
abbrev nBe : List Str := ["_law_state", "_law_deed", "_law_path", "_law_number", "_law_some", "_law_word", "_law_rest"]
theorem scBent : FnScope nBe ["_law_state", "_law_deed"] (defScope sBent) := ⟨rfl, rfl, rfl, by decide +kernel, rfl, by decide +kernel, by decide +kernel⟩
def stB (i : Nat) : Stmt := (defBody sBent).getD i (.Pass ⟨0, 0, 0, 0⟩)
theorem bodyBent : defBody sBent = [stB 0, stB 1, stB 2, stB 3, stB 4, stB 5, stB 6] := rfl
def spBent : Sp := fun vs H Q _ => ∃ l dv kd b es, vs = [.ref l, dv] ∧ StAt l H ∧ kd ∈ kindsL ∧ es ∈ goodE kd b ∧ TupE H dv es ∧ ∀ v H', But l H H' → StAt l H' → NoD H' v () → Q v H'
abbrev XBe (P : Program) (w : World) (K : PySem.W.Frag) (mg : Str → Option Value) (base : Heap) (f : Addr) (cdv : Value) (A : Around) (outer : List Env) (s : Shared) (H0 : Hp) (E : XK) : Cx := (cxOf CX0 P w K mg base nBe "_law_bent" (defScope sBent) f cdv A outer s H0 E).nox
/-- the word and the rest are set -/
def B1 (H0 : Hp) (l : Addr) (dv : V) (es : List EV) : L2.St → Hp → Prop := fun σ H => ∃ rv, σ = [some (.ref l), some dv, none, none, none, some (.str (hdS es)), some rv] ∧ TupE H dv es ∧ TupE H rv (tlE es) ∧ StAt l H ∧ But l H0 H
def B2 (H0 : Hp) (l : Addr) (dv : V) (es : List EV) (pe : EV) : L2.St → Hp → Prop := fun σ H => ∃ rv pv, σ = [some (.ref l), some dv, some pv, none, none, some (.str (hdS es)), some rv] ∧ TupE H dv es ∧ TupE H rv (tlE es) ∧ StAt l H ∧ But l H0 H ∧ EvAt H pv pe
def B3 (H0 : Hp) (l : Addr) (dv : V) (es : List EV) (pe ne : EV) : L2.St → Hp → Prop := fun σ H => ∃ rv pv nv x, σ = [some (.ref l), some dv, some pv, some nv, x, some (.str (hdS es)), some rv] ∧ TupE H dv es ∧ TupE H rv (tlE es) ∧ StAt l H ∧ But l H0 H ∧ EvAt H pv pe ∧ EvAt H nv ne
theorem EvAt.but {H H' : Hp} {l : Addr} {u : V} {e : EV} (h : EvAt H u e) (b : But l H H') (hl : StAt l H) (hl' : StAt l H') : EvAt H' u e := by
  obtain ⟨st, hl, ok⟩ := hl
  obtain ⟨st', hl', ok'⟩ := hl'
  cases e with
  | oth =>
    rcases h with h | ⟨p, e, ⟨xs, h⟩ | ⟨xs, h⟩ | ⟨xs, h⟩⟩
    · exact .inl h
    · by_cases z : p = l
      · subst z
        exact .inr ⟨p, e, .inl ⟨st', hl'⟩⟩
      · exact .inr ⟨p, e, .inl ⟨xs, b _ _ z h⟩⟩
    · exact .inr ⟨p, e, .inr (.inl ⟨xs, b _ _ (ne_of h hl (by intro z; cases z)) h⟩)⟩
    · exact .inr ⟨p, e, .inr (.inr ⟨xs, b _ _ (ne_of h hl (by intro z; cases z)) h⟩)⟩
  | _ => exact h
theorem pdB {H H' : Hp} {l : Addr} (b : But l H H') (hl : StAt l H) (hl' : StAt l H') : ∀ {xs : List V} {es : List EV}, Paired (EvAt H) xs es → Paired (EvAt H') xs es
  | _, _, .nil => .nil
  | _, _, .cons a r => .cons (a.but b hl hl') (pdB b hl hl' r)
theorem TupE.but {H H' : Hp} {l : Addr} {v : V} {es : List EV} (h : TupE H v es) (b : But l H H') (hl : StAt l H) (hl' : StAt l H') : TupE H' v es := by
  obtain ⟨p, xs, e, hp, q⟩ := h
  have np : p ≠ l := by
    obtain ⟨st, hl, _⟩ := hl
    exact ne_of hp hl (by intro z; cases z)
  exact ⟨p, xs, e, b _ _ np hp, pdB b hl hl' q⟩
theorem NoD.but {H H' : Hp} {l : Addr} {v : V} (h : NoD H v ()) (b : But l H H') (hl : StAt l H) (hl' : StAt l H') : NoD H' v () := by
  obtain ⟨t, h, hb⟩ := h
  refine ⟨t, ?_, hb⟩
  cases t with
  | tup es =>
    obtain ⟨p, xs, e, hp, q, r⟩ := h
    have np : p ≠ l := by
      obtain ⟨st, hl, _⟩ := hl
      exact ne_of hp hl (by intro z; cases z)
    exact ⟨p, xs, e, b _ _ np hp, pdB b hl hl' q, r⟩
  | no =>
    obtain ⟨st, hl, ok⟩ := hl
    obtain ⟨st', hl', ok'⟩ := hl'
    rcases h with h | h | ⟨p, e, ⟨xs, h⟩ | ⟨xs, h⟩⟩
    · exact .inl h
    · exact .inr (.inl h)
    · by_cases z : p = l
      · subst z
        exact .inr (.inr ⟨p, e, .inl ⟨st', hl'⟩⟩)
      · exact .inr (.inr ⟨p, e, .inl ⟨xs, b _ _ z h⟩⟩)
    · exact .inr (.inr ⟨p, e, .inr ⟨xs, b _ _ (ne_of h hl (by intro z; cases z)) h⟩⟩)
theorem HoR.ex {X : Cx} {sts : List Stmt} {ι : Type} {p : ι → L2.St → Hp → Prop} {r : VK} (h : ∀ i, HoR X sts (p i) r) : HoR X sts (fun σ H => ∃ i, p i σ H) r :=
  ⟨fun D σ H => ∃ i, Classical.choose (h i) D σ H, ⟨fun pins s σ H D I ⟨i, z⟩ => (Classical.choose_spec (h i)).1.run pins s σ H D I z⟩, fun D σ H ⟨i, z⟩ q => ⟨i, (Classical.choose_spec (h i)).2 D σ H z q⟩⟩
theorem pd_rep {α : Type} {F : V → α → Prop} {xs : List V} {ws : List α} (p : Paired F xs ws) : ∀ n : Nat, Paired F (List.replicate n xs).flatten (List.replicate n ws).flatten
  | 0 => .nil
  | n + 1 => by
    rw [List.replicate_succ, List.replicate_succ, List.flatten_cons, List.flatten_cons]
    exact Wl.pd_app p (pd_rep p n)
theorem pe_repL {X : Cx} {G : L2.St → Hp → Prop} {e : Expr} {ws : List Unit} {n : Nat} {j : Nat} {pos p : Pos} (hz : ws.length * n ≤ 1000) (hn : n ≤ 10) (h : PE X e (Wl.tE G (Wl.LsAt NoD) ws)) : PE X (.BinOp e .Mult (.Constant (.int n) j p) pos) (Wl.tE G (Wl.LsAt NoD) (List.replicate n ws).flatten) :=
  Wl.PE.weak (pe_op op_rep h pe_int) fun σ H Q g => ⟨g.1, fun v H1 s1 r1 => by
    obtain ⟨p, xs, rfl, hp, pd⟩ := r1
    have l1 : xs.length = ws.length := Wl.pd_len pd
    refine ⟨p, n, xs, rfl, rfl, hp, by omega, by omega, ?_, fun q hq => g.2 _ _ (s1.trans (same_new hq)) ⟨q, _, rfl, upd_same, Wl.pd_mono stbD (same_new hq) ?_⟩⟩
    · rw [l1, sizeLine_eq, Int.toNat_natCast]
      omega
    · rw [Int.toNat_natCast]
      exact pd_rep pd n⟩
section
variable {X : Cx} {G : L2.St → Hp → Prop} {pos p : Pos} {j : Nat}
theorem pe_noN : PE X (.Constant .none j pos) (Wl.tE G NoD ()) := Wl.PE.weak pe_non fun σ H Q g => g.2 _ _ (Same.refl H) ⟨.no, .inl rfl, rfl⟩
theorem pe_noD : PE X (.Dict [] [] pos) (Wl.tE G NoD ()) := Wl.PE.weak pe_dnewK fun σ H Q g p hp => g.2 _ _ (same_new hp) ⟨.no, .inr (.inr ⟨p, rfl, .inr ⟨_, upd_same⟩⟩), rfl⟩
theorem pe_evT {i : Int} {p2 : Pos} {k : Nat} : PE X (.Tuple [.Constant (.int i) j p2] k pos) (Wl.tE G (fun H v e => EvAt H v e) .oth) := Wl.PE.weak (pe_tup (pa_cons pe_int pa_nil)) fun σ H Q g => ⟨by show 1 ≤ sizeLine; decide, fun l hl => g.2 _ _ (same_new hl) (.inr ⟨l, rfl, .inr (.inl ⟨_, upd_same⟩)⟩)⟩
theorem pe_evL1 {z : Str} {p2 : Pos} : PE X (.List [.Constant (.str z) j p2] pos) (Wl.tE G (fun H v e => EvAt H v e) .oth) := Wl.PE.weak (pe_lst (pa_cons pe_str pa_nil)) fun σ H Q g => ⟨by show 1 ≤ sizeLine; decide, fun l hl => g.2 _ _ (same_new hl) (.inr ⟨l, rfl, .inl ⟨_, upd_same⟩⟩)⟩
theorem pe_evB {b : Bool} : PE X (.Constant (.bool b) j pos) (Wl.tE G (fun H v e => EvAt H v e) (.bl b)) := Wl.PE.weak pe_bl fun σ H Q g => g.2 _ _ (Same.refl H) rfl
end
section
variable {P : Program} {w : World} {K : PySem.W.Frag} {mg : Str → Option Value} {base : Heap} {f : Addr} {cdv : Value} {A : Around} {outer : List Env} {s : Shared} {H0 : Hp} {E : XK} {l : Addr} {dv : V} {kd : Str} {b : Bool} {es : List EV} {pe ne : EV}
def Be0 (H0 : Hp) (l : Addr) (dv : V) (es : List EV) : L2.St → Hp → Prop := fun σ H => σ = [some (.ref l), some dv, none, none, none, none, none] ∧ TupE H dv es ∧ StAt l H ∧ But l H0 H
theorem hB0 (hk : kd ∈ kindsL) (he : es ∈ goodE kd b) : Ho (XBe P w K mg base f cdv A outer s H0 E) (stB 0) (Be0 H0 l dv es) (B1 H0 l dv es) := by
  have c5 := chk_at chk5 hk he
  simp only [Bool.and_eq_true, decide_eq_true_eq] at c5
  have gn : ∀ σ H, Be0 H0 l dv es σ H → ∃ v, σ[1]? = some (some v) ∧ TupE H v es := fun σ H ⟨e, t, _⟩ => ⟨dv, by rw [e]; rfl, t⟩
  refine ⟨_, ps_par (i := 5) (j := 6) (by rfl) scBent.nd rfl rfl (by decide) rfl rfl (pa_cons (pe_ix ix_tup (pv 1) pe_int (fun _ _ => rfl)) (pa_cons (pe_sliceE (l := some 1) (h := none) (Wl.pe_n (pv 1) gn) (po_some pe_int) po_none (fun σ H Q h => ⟨1, rfl, h⟩) (fun σ H Q h => h)) pa_nil)) (by rfl), ?_⟩
  rintro D σ H ⟨rfl, ht, hs, hb⟩ q
  obtain ⟨p, xs, rfl, hp, pd⟩ := id ht
  obtain ⟨x0, hx0, hx1⟩ : ∃ x0, xs[0]? = some x0 ∧ x0 = .str (hdS es) := by
    cases pd with
    | nil =>
      have := c5.2.2.1
      cases this
    | @cons a e _ _ h0 _ =>
      have h := c5.2.2.1
      simp only [List.head?_cons, Option.some.injEq] at h
      rw [h] at h0
      exact ⟨a, rfl, h0.1⟩
  refine ⟨_, rfl, p, xs, 0, x0, rfl, rfl, SqT.of hp, atI_nat (j := 0) hx0, ⟨rfl, ht, hs, hb⟩, fun rv H1 s1 r1 => ⟨_, _, rfl, q _ _ ⟨rv, ?_, stbT _ _ _ _ s1 ht, r1, hs.same s1, hb.trans (Same.but l s1)⟩⟩⟩
  rw [hx1]
  rfl
theorem gsB1 : Wl.Stb (B1 H0 l dv es) := fun σ H H' s ⟨rv, e, h1, h2, h3, h4⟩ => ⟨rv, e, stbT _ _ _ _ s h1, stbT _ _ _ _ s h2, h3.same s, h4.trans (Same.but l s)⟩
theorem gsB2 : Wl.Stb (B2 H0 l dv es pe) := fun σ H H' s ⟨rv, pv, e, h1, h2, h3, h4, h5⟩ => ⟨rv, pv, e, stbT _ _ _ _ s h1, stbT _ _ _ _ s h2, h3.same s, h4.trans (Same.but l s), h5.same s⟩
theorem gsB3 : Wl.Stb (B3 H0 l dv es pe ne) := fun σ H H' s ⟨rv, pv, nv, x, e, h1, h2, h3, h4, h5, h6⟩ => ⟨rv, pv, nv, x, e, stbT _ _ _ _ s h1, stbT _ _ _ _ s h2, h3.same s, h4.trans (Same.but l s), h5.same s, h6.same s⟩
theorem hB1 (Dg : Cl P w K mg base CX0 1 "_law_digit" ["_law_state", "_law_base"] spDigit) (hr : Room 2 (XBe P w K mg base f cdv A outer s H0 E).A) : Ho (XBe P w K mg base f cdv A outer s H0 E) (stB 1) (B1 H0 l dv es) (fun σ H => ∃ i : { x : EV // x ∈ pathsE }, B2 H0 l dv es i.1 σ H) := by
  refine ⟨_, ps_set (i := 2) scBent.nd rfl (.inl rfl) (pe_ix ix_list (Wl.pe_l stbEv (by show 9 ≤ 1000; decide) (Wl.pa_c (gsB1 (H0 := H0) (l := l) (dv := dv) (es := es)) stbEv (pe_evS (by decide +kernel)) (Wl.pa_c (gsB1 (H0 := H0) (l := l) (dv := dv) (es := es)) stbEv (pe_evS (by decide +kernel)) (Wl.pa_c (gsB1 (H0 := H0) (l := l) (dv := dv) (es := es)) stbEv (pe_evS (by decide +kernel)) (Wl.pa_c (gsB1 (H0 := H0) (l := l) (dv := dv) (es := es)) stbEv (pe_evS (by decide +kernel)) (Wl.pa_c (gsB1 (H0 := H0) (l := l) (dv := dv) (es := es)) stbEv (pe_evN) (Wl.pa_c (gsB1 (H0 := H0) (l := l) (dv := dv) (es := es)) stbEv (pe_evI) (Wl.pa_c (gsB1 (H0 := H0) (l := l) (dv := dv) (es := es)) stbEv (pe_evS (by decide +kernel)) (Wl.pa_c (gsB1 (H0 := H0) (l := l) (dv := dv) (es := es)) stbEv (pe_evL1) (Wl.pa_c (gsB1 (H0 := H0) (l := l) (dv := dv) (es := es)) stbEv (pe_evS (by decide +kernel)) (Wl.pa_n _ _))))))))))) (pe_cl Dg hr (by decide) (by rfl) pass0 (pa_cons (pv 0) (pa_cons pe_int pa_nil))) (fun _ _ => rfl)), ?_⟩
  rintro D σ H ⟨rv, rfl, h1, h2, h3, h4⟩ q
  refine ⟨⟨rv, rfl, h1, h2, h3, h4⟩, fun v H1 s1 r1 => ?_⟩
  obtain ⟨p, xs, rfl, hp, pd⟩ := r1
  obtain ⟨st, hl, ok⟩ := h3.same s1
  refine ⟨_, rfl, l, st, 9, rfl, hl, ok, by decide, by decide, fun d st2 H2 hd ok2 h2' b2 => ?_⟩
  have npl : p ≠ l := fun e => by
    rw [e, hl] at hp
    cases hp
    cases pd with
    | cons a r =>
      rcases ok with ⟨c, e⟩ | ⟨a', b', c', e⟩ <;> (cases e; exact absurd a.1 (by intro z; cases z))
  have hd' : d < 9 := by
    have z : (d : Int) < 9 := hd
    omega
  have hlen : xs.length = 9 := Wl.pd_len (R := fun H v e => EvAt H v e) pd
  have hx : d < xs.length := by omega
  obtain ⟨ev, hev, hn⟩ := pd_at pd (List.getElem?_eq_getElem hx)
  have S1 : StAt l H1 := ⟨st, hl, ok⟩
  have S2 : StAt l H2 := ⟨st2, h2', ok2⟩
  exact ⟨p, xs, d, xs[d], rfl, rfl, SqL.of (b2 p _ npl hp), atI_nat (List.getElem?_eq_getElem hx), q _ _ ⟨⟨ev, List.mem_of_getElem? hev⟩, rv, xs[d], rfl, (stbT _ _ _ _ s1 h1).but b2 S1 S2, (stbT _ _ _ _ s1 h2).but b2 S1 S2, S2, (h4.trans (Same.but l s1)).trans b2, hn.but b2 S1 S2⟩⟩
theorem hB2 (Dg : Cl P w K mg base CX0 1 "_law_digit" ["_law_state", "_law_base"] spDigit) (hr : Room 2 (XBe P w K mg base f cdv A outer s H0 E).A) : Ho (XBe P w K mg base f cdv A outer s H0 E) (stB 2) (B2 H0 l dv es pe) (fun σ H => ∃ i : { x : EV // x ∈ numsE }, B3 H0 l dv es pe i.1 σ H) := by
  refine ⟨_, ps_set (i := 3) scBent.nd rfl (.inl rfl) (pe_ix ix_list (Wl.pe_l stbEv (by show 4 ≤ 1000; decide) (Wl.pa_c (gsB2 (H0 := H0) (l := l) (dv := dv) (es := es) (pe := pe)) stbEv (pe_evN) (Wl.pa_c (gsB2 (H0 := H0) (l := l) (dv := dv) (es := es) (pe := pe)) stbEv (pe_evS (by decide +kernel)) (Wl.pa_c (gsB2 (H0 := H0) (l := l) (dv := dv) (es := es) (pe := pe)) stbEv (pe_evB) (Wl.pa_c (gsB2 (H0 := H0) (l := l) (dv := dv) (es := es) (pe := pe)) stbEv (pe_evT) (Wl.pa_n _ _)))))) (pe_cl Dg hr (by decide) (by rfl) pass0 (pa_cons (pv 0) (pa_cons pe_int pa_nil))) (fun _ _ => rfl)), ?_⟩
  rintro D σ H ⟨rv, pv, rfl, h1, h2, h3, h4, h5⟩ q
  refine ⟨⟨rv, pv, rfl, h1, h2, h3, h4, h5⟩, fun v H1 s1 r1 => ?_⟩
  obtain ⟨p, xs, rfl, hp, pd⟩ := r1
  obtain ⟨st, hl, ok⟩ := h3.same s1
  refine ⟨_, rfl, l, st, 4, rfl, hl, ok, by decide, by decide, fun d st2 H2 hd ok2 h2' b2 => ?_⟩
  have npl : p ≠ l := fun e => by
    rw [e, hl] at hp
    cases hp
    cases pd with
    | cons a r =>
      rcases ok with ⟨c, e⟩ | ⟨a', b', c', e⟩ <;> (cases e; rcases a with z | ⟨_, z, _⟩ <;> cases z)
  have hd' : d < 4 := by
    have z : (d : Int) < 4 := hd
    omega
  have hlen : xs.length = 4 := Wl.pd_len (R := fun H v e => EvAt H v e) pd
  have hx : d < xs.length := by omega
  obtain ⟨ev, hev, hn⟩ := pd_at pd (List.getElem?_eq_getElem hx)
  have S1 : StAt l H1 := ⟨st, hl, ok⟩
  have S2 : StAt l H2 := ⟨st2, h2', ok2⟩
  exact ⟨p, xs, d, xs[d], rfl, rfl, SqL.of (b2 p _ npl hp), atI_nat (List.getElem?_eq_getElem hx), q _ _ ⟨⟨ev, List.mem_of_getElem? hev⟩, rv, pv, xs[d], _, rfl, (stbT _ _ _ _ s1 h1).but b2 S1 S2, (stbT _ _ _ _ s1 h2).but b2 S1 S2, S2, (h4.trans (Same.but l s1)).trans b2, (h5.same s1).but b2 S1 S2, hn.but b2 S1 S2⟩⟩
end
end Tx
set_option Elab.async false
set_option linter.all false
set_option maxRecDepth 100000
set_option maxHeartbeats 16000000
namespace Tx
open PySem PySem.Spec PyProof.Rows L2 Cm Ob
theorem cutE_len (es : List EV) (lo hi : Option Int) : (cutE es lo hi).length ≤ es.length := by
  unfold cutE
  rw [List.length_take, List.length_drop]
  omega
def elS (s : Stmt) : Stmt := match s with | .If _ _ e _ => e.getD 0 (.Pass ⟨0, 0, 0, 0⟩) | _ => .Pass ⟨0, 0, 0, 0⟩
theorem iteT' {c : Bool} {A B : Prop} (h : c = true) (a : A) : if c = true then A else B := by
  rw [if_pos h]
  exact a
theorem iteF' {c : Bool} {A B : Prop} (h : c = false) (b : B) : if c = true then A else B := by
  rw [if_neg (by rw [h]; decide)]
  exact b
theorem lenC (es1 es2 : List EV) (h1 : es1.length ≤ 10) (h2 : es2.length ≤ 10) : es1.length + es2.length ≤ 900 := by omega
section
variable {P : Program} {w : World} {K : PySem.W.Frag} {mg : Str → Option Value} {base : Heap} {f : Addr} {cdv : Value} {A : Around} {outer : List Env} {s : Shared} {H0 : Hp} {E : XK} {l : Addr} {dv : V} {kd : Str} {b : Bool} {es : List EV} {pe ne : EV}
/-- the last statements, the word's kind given -/
theorem hBt (B' : Bi mg) (hlist : mg "list" = none) (Dg : Cl P w K mg base CX0 1 "_law_digit" ["_law_state", "_law_base"] spDigit) (hr : Room 2 (XBe P w K mg base f cdv A outer s H0 E).A) (hk : kd ∈ kindsL) (he : es ∈ goodE kd b) (hp : pe ∈ pathsE) (hn : ne ∈ numsE) (Q : VK) (q : ∀ v H', But l H0 H' → StAt l H' → NoD H' v () → Q v H') :
    HoR (XBe P w K mg base f cdv A outer s H0 E) [stB 3, stB 4, stB 5, stB 6] (B3 H0 l dv es pe ne) (fun v H' => Q v H') := by
  have k0 := chk_at chk0 hk he
  have k1 := chk_at chk1 hk he
  have k2 := chk_at chk2 hk he
  have k3 := chk_at chk3 hk he
  have k4 := chk_at chk4 hk he
  have k5 := chk_at chk5 hk he
  simp only [Bool.and_eq_true, decide_eq_true_eq] at k0 k5
  obtain ⟨c1, c2, c7, c8, c11⟩ := k0
  obtain ⟨lD0, lW, _, _⟩ := k5
  have lD : es.length ≤ 10 := by omega
  have lI : (inE es).length ≤ 10 := Nat.le_trans (cutE_len _ _ _) lD
  have lR : (tlE es).length ≤ 10 := Nat.le_trans (cutE_len _ _ _) lD
  have lR1 : (cutE (tlE es) (some 1) none).length ≤ 10 := Nat.le_trans (cutE_len _ _ _) lR
  have c10 := List.all_eq_true.mp k1 ne hn
  have lW2 : (hdS es ++ "s").length = (hdS es).length + 1 := Array.size_append
  have lWS : (hdS es).length + ("s" : Str).length ≤ sizeLine := by
    rw [sizeLine_eq]
    show (hdS es).length + 1 ≤ _
    omega
  have lWS2 : (hdS es ++ "s").length ≤ 100000 := by omega
  have lW3 : (hdS es).length ≤ 100000 := by omega
  have gs : Wl.Stb (B3 H0 l dv es pe ne) := gsB3
  have sg : ∀ ws, Wl.Stb (Wl.Gn (B3 H0 l dv es pe ne) (Wl.LsAt NoD) 4 ws) := fun ws => Wl.stbG gs (Wl.stbL stbD)
  have i0 : ∀ σ H, B3 H0 l dv es pe ne σ H → B3 H0 l dv es pe ne σ H := fun _ _ h => h
  have i1 : ∀ ws σ H, Wl.Gn (B3 H0 l dv es pe ne) (Wl.LsAt NoD) 4 ws σ H → B3 H0 l dv es pe ne σ H := fun ws _ _ h => h.1
  have vD : ∀ {G : L2.St → Hp → Prop}, (∀ σ H, G σ H → B3 H0 l dv es pe ne σ H) → ∀ σ H, G σ H → ∃ v, σ[1]? = some (some v) ∧ TupE H v es := fun h σ H g => by
    obtain ⟨rv, pv, nv, x, rfl, h1, h2, h3, h4, h5, h6⟩ := h σ H g
    exact ⟨_, rfl, h1⟩
  have vR : ∀ {G : L2.St → Hp → Prop}, (∀ σ H, G σ H → B3 H0 l dv es pe ne σ H) → ∀ σ H, G σ H → ∃ v, σ[6]? = some (some v) ∧ TupE H v (tlE es) := fun h σ H g => by
    obtain ⟨rv, pv, nv, x, rfl, h1, h2, h3, h4, h5, h6⟩ := h σ H g
    exact ⟨_, rfl, h2⟩
  have vP : ∀ {G : L2.St → Hp → Prop}, (∀ σ H, G σ H → B3 H0 l dv es pe ne σ H) → ∀ σ H, G σ H → ∃ v, σ[2]? = some (some v) ∧ EvAt H v pe := fun h σ H g => by
    obtain ⟨rv, pv, nv, x, rfl, h1, h2, h3, h4, h5, h6⟩ := h σ H g
    exact ⟨_, rfl, h5⟩
  have vN : ∀ {G : L2.St → Hp → Prop}, (∀ σ H, G σ H → B3 H0 l dv es pe ne σ H) → ∀ σ H, G σ H → ∃ v, σ[3]? = some (some v) ∧ EvAt H v ne := fun h σ H g => by
    obtain ⟨rv, pv, nv, x, rfl, h1, h2, h3, h4, h5, h6⟩ := h σ H g
    exact ⟨_, rfl, h6⟩
  have vW : ∀ {G : L2.St → Hp → Prop}, (∀ σ H, G σ H → B3 H0 l dv es pe ne σ H) → ∀ σ H, G σ H → ∃ v, σ[5]? = some (some v) ∧ EvAt H v (.str (hdS es)) := fun h σ H g => by
    obtain ⟨rv, pv, nv, x, rfl, h1, h2, h3, h4, h5, h6⟩ := h σ H g
    exact ⟨_, rfl, rfl, lW3⟩
  have vw0 : ∀ σ H, B3 H0 l dv es pe ne σ H → ∃ v, σ[5]? = some (some v) ∧ NoD H v () := fun σ H g => by
    obtain ⟨rv, pv, nv, x, rfl, h1, h2, h3, h4, h5, h6⟩ := g
    exact ⟨_, rfl, .no, .inr (.inl ⟨_, rfl⟩), rfl⟩
  have st0 : ∀ ws σ H u H', B3 H0 l dv es pe ne σ H → Same H H' → Wl.LsAt NoD H' u ws → Wl.Gn (B3 H0 l dv es pe ne) (Wl.LsAt NoD) 4 ws (σ.set 4 (some u)) H' := by
    rintro ws σ H u H' g sm r
    obtain ⟨rv, pv, nv, x, rfl, h1, h2, h3, h4, h5, h6⟩ := gs _ _ _ sm g
    exact ⟨⟨rv, pv, nv, _, rfl, h1, h2, h3, h4, h5, h6⟩, u, rfl, r⟩
  have st1 : ∀ w1 ws σ H u H', Wl.Gn (B3 H0 l dv es pe ne) (Wl.LsAt NoD) 4 w1 σ H → Same H H' → Wl.LsAt NoD H' u ws → Wl.Gn (B3 H0 l dv es pe ne) (Wl.LsAt NoD) 4 ws (σ.set 4 (some u)) H' := fun w1 ws σ H u H' g sm r => st0 ws σ H u H' g.1 sm r
  have g4 : ∀ ws σ H, Wl.Gn (B3 H0 l dv es pe ne) (Wl.LsAt NoD) 4 ws σ H → ∃ u, σ[4]? = some (some u) ∧ Wl.LsAt NoD H u ws := fun ws σ H g => g.2
  have hL : ∀ {q1 q2 q3 : Pos}, PE (XBe P w K mg base f cdv A outer s H0 E) (.Call (.Name "list" q1) [.Name "_law_deed" q2] [] q3) (Wl.tE (B3 H0 l dv es pe ne) NoD ()) := fun {q1 q2 q3} =>
    Wl.PE.weak (pe_callTy call_list_of (by rfl) hlist (by decide +kernel) (pa_cons (pv 1) pa_nil)) fun σ H Q g => by
      obtain ⟨v, ev, p, xs, rfl, hp, _⟩ := vD i0 σ H g.1
      exact ⟨_, ev, p, xs, rfl, .inr (SqT.of hp), fun l' hl' => g.2 _ _ (same_new hl') ⟨.no, .inr (.inr ⟨l', rfl, .inl ⟨_, upd_same⟩⟩), rfl⟩⟩
  have last : ∀ ws : List Unit, 0 < ws.length → ws.length ≤ 100 → HoR (XBe P w K mg base f cdv A outer s H0 E) [stB 6] (Wl.Gn (B3 H0 l dv es pe ne) (Wl.LsAt NoD) 4 ws) (fun v H' => Q v H') := by
    intro ws w0 w1
    refine ⟨_, pss_one (ps_ret (pe_ix ix_list (pv 4) (pe_cl Dg hr (by decide) (by rfl) pass0 (pa_cons (pv 0) (pa_cons (pe_callB call_len_seq (by rfl) B'.len PySem.boot_len (pa_cons (pv 4) pa_nil)) pa_nil))) (fun _ _ => rfl))), ?_⟩
    rintro D σ H ⟨⟨rv, pv, nv, x, rfl, h1, h2, h3, h4, h5, h6⟩, u, eu, p, xs, rfl, hp, pd⟩ q1
    cases eu
    obtain ⟨st, hl, ok⟩ := id h3
    have hlen : xs.length = ws.length := Wl.pd_len pd
    refine ⟨_, rfl, _, rfl, _, rfl, p, xs, rfl, .inl (SqL.of hp), l, st, xs.length, rfl, hl, ok, by omega, by omega, fun d st2 H2 hd ok2 h2' b2 => ?_⟩
    have npl : p ≠ l := fun e => by
      rw [e, hl] at hp
      cases hp
      cases pd with
      | nil => exact absurd w0 (by decide)
      | cons a r =>
        obtain ⟨t, ht, _⟩ := a
        have key : ∀ c : Int, ¬ TvAt H (.int c) t := fun c h => by
          cases t with
          | tup _ =>
            obtain ⟨_, _, z, _⟩ := h
            cases z
          | no => rcases h with z | ⟨_, z⟩ | ⟨_, z, _⟩ <;> cases z
        rcases ok with ⟨c, e⟩ | ⟨a', b', c', e⟩
        · cases e
          exact key _ ht
        · cases e
          exact key _ ht
    have hx : d < xs.length := by
      have z : (d : Int) < xs.length := hd
      omega
    obtain ⟨ev, hev, hn⟩ := pd_at pd (List.getElem?_eq_getElem hx)
    have S2 : StAt l H2 := ⟨st2, h2', ok2⟩
    exact ⟨p, xs, d, xs[d], rfl, rfl, SqL.of (b2 p _ npl hp), atI_nat (List.getElem?_eq_getElem hx), q1 _ _ (q _ H2 (h4.trans b2) S2 (hn.but b2 h3 S2))⟩
  refine HoR.cons (Wl.ho_set (i := 4) scBent.nd rfl (.inl rfl) (Wl.pe_l stbD (by show 9 ≤ 1000; decide) (Wl.pa_c gs stbD (pe_bad (pe_catE gs (lenC _ _ (by first | exact lD | exact lI | exact lR | (show 1 ≤ 10; decide) | (show 2 ≤ 10; decide)) (by first | exact lD | exact lI | exact lR | exact lR1 | (show 1 ≤ 10; decide) | (show 2 ≤ 10; decide))) (Wl.pe_n (pv 1) (vD i0)) (pe_tupE (by show 1 ≤ 900; decide) (Wl.pa_c gs stbEv (pe_evS (by decide +kernel)) (Wl.pa_n _ _)))) c1) (Wl.pa_c gs stbD (pe_bad (pe_sliceE (l := none) (h := some (-1)) (Wl.pe_n (pv 1) (vD i0)) po_none (po_some (pe_un un_neg pe_int)) (fun σ H Q h => h) (fun σ H Q h => ⟨1, rfl, -1, rfl, h⟩)) c2) (Wl.pa_c gs stbD (hL) (Wl.pa_c gs stbD (pe_bad (pe_tupE (by show 0 ≤ 900; decide) (Wl.pa_n _ _)) bad0) (Wl.pa_c gs stbD (pe_noN) (Wl.pa_c gs stbD (Wl.pe_n (pv 5) vw0) (Wl.pa_c gs stbD (pe_bad (pe_catE gs (lenC _ _ (by first | exact lD | exact lI | exact lR | (show 1 ≤ 10; decide) | (show 2 ≤ 10; decide)) (by first | exact lD | exact lI | exact lR | exact lR1 | (show 1 ≤ 10; decide) | (show 2 ≤ 10; decide))) (pe_tupE (by show 1 ≤ 900; decide) (Wl.pa_c gs stbEv (pe_evN) (Wl.pa_n _ _))) (Wl.pe_n (pv 6) (vR i0))) c7) (Wl.pa_c gs stbD (pe_bad (pe_catE gs (lenC _ _ (by first | exact lD | exact lI | exact lR | (show 1 ≤ 10; decide) | (show 2 ≤ 10; decide)) (by first | exact lD | exact lI | exact lR | exact lR1 | (show 1 ≤ 10; decide) | (show 2 ≤ 10; decide))) (pe_tupE (by show 1 ≤ 900; decide) (Wl.pa_c gs stbEv (Wl.PE.weak (pe_op op_add_str (pv 5) pe_str) fun σ H Q g => by obtain ⟨rv, pv, nv, x, rfl, _⟩ := g.1; exact ⟨_, rfl, _, _, rfl, rfl, lWS, g.2 _ _ (Same.refl H) ⟨rfl, lWS2⟩⟩) (Wl.pa_n _ _))) (Wl.pe_n (pv 6) (vR i0))) c8) (Wl.pa_c gs stbD (pe_noD) (Wl.pa_n _ _))))))))))) (st0 _)) ?_
  refine HoR.cons (Wl.ho_set (i := 4) scBent.nd rfl (.inl rfl) (Wl.pe_cat (sg _) stbD (by show 9 + 3 ≤ 1000; decide) (Wl.pe_n (pv 4) (g4 _)) (Wl.pe_l stbD (by show 3 ≤ 1000; decide) (Wl.pa_c (sg _) stbD (pe_bad (pe_catE (sg _) (lenC _ _ (by first | exact lD | exact lI | exact lR | (show 1 ≤ 10; decide) | (show 2 ≤ 10; decide)) (by first | exact lD | exact lI | exact lR | exact lR1 | (show 1 ≤ 10; decide) | (show 2 ≤ 10; decide))) (pe_tupE (by show 2 ≤ 900; decide) (Wl.pa_c (sg _) stbEv (pe_evV (pv 5) (vW (i1 _))) (Wl.pa_c (sg _) stbEv (pe_evV (pv 3) (vN (i1 _))) (Wl.pa_n _ _)))) (pe_sliceE (l := some 1) (h := none) (Wl.pe_n (pv 6) (vR (i1 _))) (po_some pe_int) po_none (fun σ H Q h => ⟨1, rfl, h⟩) (fun σ H Q h => h))) c10) (Wl.pa_c (sg _) stbD (pe_bad (pe_catE (sg _) (lenC _ _ (by first | exact lD | exact lI | exact lR | (show 1 ≤ 10; decide) | (show 2 ≤ 10; decide)) (by first | exact lD | exact lI | exact lR | exact lR1 | (show 1 ≤ 10; decide) | (show 2 ≤ 10; decide))) (pe_tupE (by show 1 ≤ 900; decide) (Wl.pa_c (sg _) stbEv (pe_evS (by decide +kernel)) (Wl.pa_n _ _))) (Wl.pe_n (pv 6) (vR (i1 _)))) c11) (Wl.pa_c (sg _) stbD (pe_bad (pe_catE (sg _) (lenC _ _ (by first | exact lD | exact lI | exact lR | (show 1 ≤ 10; decide) | (show 2 ≤ 10; decide)) (by first | exact lD | exact lI | exact lR | exact lR1 | (show 1 ≤ 10; decide) | (show 2 ≤ 10; decide))) (pe_tupE (by show 1 ≤ 900; decide) (Wl.pa_c (sg _) stbEv (pe_evL) (Wl.pa_n _ _))) (Wl.pe_n (pv 6) (vR (i1 _)))) c7) (Wl.pa_n _ _)))))) (st1 _ _)) ?_
  by_cases w1 : hdS es = "clone"
  · simp only [w1, ne_eq, not_true_eq_false, decide_false, Bool.false_or, Bool.and_eq_true] at k2
    obtain ⟨d1, d2, d3⟩ := k2
    rw [← w1] at d1 d2 d3
    obtain ⟨t1, ht1, hq1⟩ : Ho (XBe P w K mg base f cdv A outer s H0 E) (ifB (stB 5) 0) (Wl.Gn (B3 H0 l dv es pe ne) (Wl.LsAt NoD) 4 ([(), (), (), (), (), (), (), (), ()] ++ [(), (), ()])) (Wl.Gn (B3 H0 l dv es pe ne) (Wl.LsAt NoD) 4 (([(), (), (), (), (), (), (), (), ()] ++ [(), (), ()]) ++ (List.replicate 2 [(), (), ()]).flatten)) := Wl.ho_set (i := 4) scBent.nd rfl (.inl rfl) (Wl.pe_cat (sg _) stbD (by show 12 + 6 ≤ 1000; decide) (Wl.pe_n (pv 4) (g4 _)) (pe_repL (n := 2) (by show 3 * 2 ≤ 1000; decide) (by decide) (Wl.pe_l stbD (by show 3 ≤ 1000; decide) (Wl.pa_c (sg _) stbD (pe_bad (pe_tupE (by show 3 ≤ 900; decide) (Wl.pa_c (sg _) stbEv (pe_evV (pv 5) (vW (i1 _))) (Wl.pa_c (sg _) stbEv (pe_evI) (Wl.pa_c (sg _) stbEv (pe_evI) (Wl.pa_n _ _))))) d1) (Wl.pa_c (sg _) stbD (pe_bad (pe_tupE (by show 3 ≤ 900; decide) (Wl.pa_c (sg _) stbEv (pe_evV (pv 5) (vW (i1 _))) (Wl.pa_c (sg _) stbEv (pe_evI) (Wl.pa_c (sg _) stbEv (pe_evN) (Wl.pa_n _ _))))) d2) (Wl.pa_c (sg _) stbD (pe_bad (pe_tupE (by show 3 ≤ 900; decide) (Wl.pa_c (sg _) stbEv (pe_evV (pv 5) (vW (i1 _))) (Wl.pa_c (sg _) stbEv (pe_evI) (Wl.pa_c (sg _) stbEv (pe_evS (by decide +kernel)) (Wl.pa_n _ _))))) d3) (Wl.pa_n _ _))))))) (st1 _ _)
    refine HoR.cons (q := Wl.Gn (B3 H0 l dv es pe ne) (Wl.LsAt NoD) 4 (([(), (), (), (), (), (), (), (), ()] ++ [(), (), ()]) ++ (List.replicate 2 [(), (), ()]).flatten)) ⟨_, ps_if (pt_cmpR op_eq (pv 5) pe_str (nomark _)) (pss_one ht1) pss_no, ?_⟩ (last _ (by decide) (by decide))
    rintro D σ H g q1
    obtain ⟨rv, pv, nv, x, rfl, h1, h2, h3, h4, h5, h6⟩ := id g.1
    refine ⟨_, rfl, rfl, _, rfl, ?_⟩
    rw [decide_eq_true (congrArg V.str w1)]
    exact iteT (hq1 D _ H g q1)
  by_cases w2 : hdS es = "make" ∨ hdS es = "make all"
  · have k3' : ¬ (hdS es ≠ "make" ∧ hdS es ≠ "make all") := fun z => w2.elim z.1 z.2
    simp only [k3', decide_false, Bool.false_or, Bool.and_eq_true] at k3
    obtain ⟨d1, d2, d3'⟩ := k3
    have d3 := List.all_eq_true.mp d3' pe hp
    obtain ⟨t1, ht1, hq1⟩ : Ho (XBe P w K mg base f cdv A outer s H0 E) (ifB (elS (stB 5)) 0) (Wl.Gn (B3 H0 l dv es pe ne) (Wl.LsAt NoD) 4 ([(), (), (), (), (), (), (), (), ()] ++ [(), (), ()])) (Wl.Gn (B3 H0 l dv es pe ne) (Wl.LsAt NoD) 4 (([(), (), (), (), (), (), (), (), ()] ++ [(), (), ()]) ++ [(), (), (), ()])) := Wl.ho_set (i := 4) scBent.nd rfl (.inl rfl) (Wl.pe_cat (sg _) stbD (by show 12 + 4 ≤ 1000; decide) (Wl.pe_n (pv 4) (g4 _)) (Wl.pe_l stbD (by show 4 ≤ 1000; decide) (Wl.pa_c (sg _) stbD (pe_bad (pe_tupE (by show 4 ≤ 900; decide) (Wl.pa_c (sg _) stbEv (pe_evV (pv 5) (vW (i1 _))) (Wl.pa_c (sg _) stbEv (pe_evI) (Wl.pa_c (sg _) stbEv (pe_evS (by decide +kernel)) (Wl.pa_c (sg _) stbEv (pe_evS (by decide +kernel)) (Wl.pa_n _ _)))))) d1) (Wl.pa_c (sg _) stbD (pe_bad (pe_tupE (by show 4 ≤ 900; decide) (Wl.pa_c (sg _) stbEv (pe_evV (pv 5) (vW (i1 _))) (Wl.pa_c (sg _) stbEv (pe_evI) (Wl.pa_c (sg _) stbEv (pe_evS (by decide +kernel)) (Wl.pa_c (sg _) stbEv (pe_evN) (Wl.pa_n _ _)))))) d2) (Wl.pa_c (sg _) stbD (pe_bad (pe_tupE (by show 4 ≤ 900; decide) (Wl.pa_c (sg _) stbEv (pe_evV (pv 5) (vW (i1 _))) (Wl.pa_c (sg _) stbEv (pe_evI) (Wl.pa_c (sg _) stbEv (pe_evV (pv 2) (vP (i1 _))) (Wl.pa_c (sg _) stbEv (pe_evS (by decide +kernel)) (Wl.pa_n _ _)))))) d3) (Wl.pa_c (sg _) stbD (pe_bad (pe_tupE (by show 4 ≤ 900; decide) (Wl.pa_c (sg _) stbEv (pe_evV (pv 5) (vW (i1 _))) (Wl.pa_c (sg _) stbEv (pe_evI) (Wl.pa_c (sg _) stbEv (pe_evS (by decide +kernel)) (Wl.pa_c (sg _) stbEv (pe_evL) (Wl.pa_n _ _)))))) d2) (Wl.pa_n _ _))))))) (st1 _ _)
    refine HoR.cons (q := Wl.Gn (B3 H0 l dv es pe ne) (Wl.LsAt NoD) 4 (([(), (), (), (), (), (), (), (), ()] ++ [(), (), ()]) ++ [(), (), (), ()])) ⟨_, ps_if (pt_cmpR op_eq (pv 5) pe_str (nomark _)) pss_no (pss_one (ps_if (pt_cmpR op_in_seq (pv 5) (pe_tup (pa_cons pe_str (pa_cons pe_str pa_nil))) (by rfl)) (pss_one ht1) pss_no)), ?_⟩ (last _ (by decide) (by decide))
    rintro D σ H g q1
    obtain ⟨rv, pv, nv, x, rfl, h1, h2, h3, h4, h5, h6⟩ := id g.1
    refine ⟨_, rfl, rfl, _, rfl, ?_⟩
    rw [decide_eq_false (show ¬ V.str (hdS es) = V.str "clone" from fun z => w1 (V.str.inj z))]
    refine iteF ⟨_, rfl, by show 2 ≤ sizeLine; decide, fun p hp => ⟨p, _, rfl, .inr (SqT.of upd_same), rfl, rfl, _, rfl, ?_⟩⟩
    have iv : inV (V.str (hdS es)) [V.str "make", V.str "make all"] = true := by
      rcases w2 with z | z <;> (rw [z]; decide +kernel)
    exact iteT' iv (hq1 D _ _ ((sg _) _ _ _ (same_new hp) g) q1)
  · have k4' : ¬ (hdS es = "clone" ∨ hdS es = "make" ∨ hdS es = "make all") := fun z => z.elim w1 w2
    simp only [k4', decide_false, Bool.false_or] at k4
    have d1 := List.all_eq_true.mp k4 pe hp
    obtain ⟨t1, ht1, hq1⟩ : Ho (XBe P w K mg base f cdv A outer s H0 E) (elS (elS (stB 5))) (Wl.Gn (B3 H0 l dv es pe ne) (Wl.LsAt NoD) 4 ([(), (), (), (), (), (), (), (), ()] ++ [(), (), ()])) (Wl.Gn (B3 H0 l dv es pe ne) (Wl.LsAt NoD) 4 (([(), (), (), (), (), (), (), (), ()] ++ [(), (), ()]) ++ (List.replicate 4 [()]).flatten)) := Wl.ho_set (i := 4) scBent.nd rfl (.inl rfl) (Wl.pe_cat (sg _) stbD (by show 12 + 4 ≤ 1000; decide) (Wl.pe_n (pv 4) (g4 _)) (pe_repL (n := 4) (by show 1 * 4 ≤ 1000; decide) (by decide) (Wl.pe_l stbD (by show 1 ≤ 1000; decide) (Wl.pa_c (sg _) stbD (pe_bad (pe_catE (sg _) (lenC _ _ (by first | exact lD | exact lI | exact lR | (show 1 ≤ 10; decide) | (show 2 ≤ 10; decide)) (by first | exact lD | exact lI | exact lR | exact lR1 | (show 1 ≤ 10; decide) | (show 2 ≤ 10; decide))) (pe_sliceE (l := none) (h := some (-1)) (Wl.pe_n (pv 1) (vD (i1 _))) po_none (po_some (pe_un un_neg pe_int)) (fun σ H Q h => h) (fun σ H Q h => ⟨1, rfl, -1, rfl, h⟩)) (pe_tupE (by show 1 ≤ 900; decide) (Wl.pa_c (sg _) stbEv (pe_evV (pv 2) (vP (i1 _))) (Wl.pa_n _ _)))) d1) (Wl.pa_n _ _))))) (st1 _ _)
    refine HoR.cons (q := Wl.Gn (B3 H0 l dv es pe ne) (Wl.LsAt NoD) 4 (([(), (), (), (), (), (), (), (), ()] ++ [(), (), ()]) ++ (List.replicate 4 [()]).flatten)) ⟨_, ps_if (pt_cmpR op_eq (pv 5) pe_str (nomark _)) pss_no (pss_one (ps_if (pt_cmpR op_in_seq (pv 5) (pe_tup (pa_cons pe_str (pa_cons pe_str pa_nil))) (by rfl)) pss_no (pss_one ht1))), ?_⟩ (last _ (by decide) (by decide))
    rintro D σ H g q1
    obtain ⟨rv, pv, nv, x, rfl, h1, h2, h3, h4, h5, h6⟩ := id g.1
    refine ⟨_, rfl, rfl, _, rfl, ?_⟩
    rw [decide_eq_false (show ¬ V.str (hdS es) = V.str "clone" from fun z => w1 (V.str.inj z))]
    refine iteF ⟨_, rfl, by show 2 ≤ sizeLine; decide, fun p hp => ⟨p, _, rfl, .inr (SqT.of upd_same), rfl, rfl, _, rfl, ?_⟩⟩
    have iv : inV (V.str (hdS es)) [V.str "make", V.str "make all"] = false := by
      have a1 : ¬ "make" = hdS es := fun z => w2 (.inl z.symm)
      have a2 : ¬ "make all" = hdS es := fun z => w2 (.inr z.symm)
      simp [inV, eqV, a1, a2]
    exact iteF' iv (hq1 D _ _ ((sg _) _ _ _ (same_new hp) g) q1)
end
end Tx
set_option Elab.async false
set_option linter.all false
set_option maxRecDepth 100000
set_option maxHeartbeats 16000000
namespace Tx
open PySem PySem.Spec PyProof.Rows L2 Cm Ob
theorem ok_bent {P : Program} {w : World} {K : PySem.W.Frag} {mg : Str → Option Value} {base : Heap} {f : Addr} {fd : FuncData} {k : Nat} (F : Fun K "_law_bent" "_law_bent" sBent f fd) (B' : Bi mg) (hlist : mg "list" = none) (Dg : Cl P w K mg base CX0 1 "_law_digit" ["_law_state", "_law_base"] spDigit) : FnOk P w K mg base CX0 (k + 3) f fd ["_law_state", "_law_deed"] spBent := by
  refine F.ok scBent (fun vs H Q E h => ?_) (fun cdv A outer s H vs Q E hr h => ?_)
  · obtain ⟨l, dv, kd, b, es, rfl, _⟩ := h
    rfl
  · obtain ⟨l, dv, kd, b, es, rfl, hS, hk, he, ht, q⟩ := h
    have hr2 : Room 2 (XBe P w K mg base f cdv A outer s H E).A := Room.mono (show Room (k + 2) (XBe P w K mg base f cdv A outer s H E).A from hr) (by omega)
    rw [bodyBent]
    obtain ⟨t, htt, hq⟩ := HoR.cons (hB0 (l := l) (dv := dv) (f := f) (cdv := cdv) (A := A) (outer := outer) (s := s) (H0 := H) (E := E) (P := P) (w := w) (K := K) (mg := mg) (base := base) hk he) (HoR.cons (hB1 Dg hr2) (HoR.ex fun pe => HoR.cons (hB2 Dg hr2) (HoR.ex fun ne => hBt B' hlist Dg hr2 hk he pe.2 ne.2 Q q)))
    exact ⟨t, htt, hq _ _ _ ⟨rfl, ht, hS, But.refl _ _⟩ fun v H' z => z⟩
/-! ### law -/
abbrev nLw : List Str := ["_law_script", "_law_k", "_law_state", "_law_world", "_law_shape", "_law_deed", "_law_tree_here", "_law_odd", "_law_far"]
theorem scLw : FnScope nLw ["_law_script"] (defScope sLaw) := ⟨rfl, rfl, rfl, by decide +kernel, rfl, by decide +kernel, by decide +kernel⟩
def stL (i : Nat) : Stmt := (defBody sLaw).getD i (.Pass ⟨0, 0, 0, 0⟩)
theorem bodyLaw : defBody sLaw = [stL 0, stL 1] := rfl
def stT (i : Nat) : Stmt := foB (stL 0) i
abbrev XLw (P : Program) (w : World) (K : PySem.W.Frag) (mg : Str → Option Value) (base : Heap) (f : Addr) (cdv : Value) (A : Around) (outer : List Env) (s : Shared) (H0 : Hp) (E : XK) : Cx := (cxOf CX0 P w K mg base nLw "law" (defScope sLaw) f cdv A outer s H0 E).nox
theorem passF {P : Program} {w : World} {X : Cx} : Passes (L2.CX P w) X (fun _ _ _ => False) := fun _ _ _ _ _ _ _ ⟨_, _, _, _, _, _, _, _, _, _, _, _, z⟩ => z.elim
structure Lw (P : Program) (w : World) (K : PySem.W.Frag) (mg : Str → Option Value) (base : Heap) (CW CT CM CR CN : Addr) : Prop where
  cell : Cl P w K mg base CX0 1 "_law_cell_at" ["_law_script", "_law_k"] (spCell K)
  dig : Cl P w K mg base CX0 1 "_law_digit" ["_law_state", "_law_base"] spDigit
  lt : Cl P w K mg base CX0 2 "_law_tree" ["_law_state"] spLT
  good : Cl P w K mg base CX0 1 "_law_good" ["_law_space", "_law_way"] spGood
  bent : Cl P w K mg base CX0 3 "_law_bent" ["_law_state", "_law_deed"] spBent
  nam : Cl P w K mg base CX0 7 "_law_named" ["_law_world", "_law_deed"] (spNam CW CT CM)
  mkR : ∃ f fd, Mk K CR f ∧ FnOk P w K mg base (L2.CX P w) 13 f fd ["self", "top"] (spTree K CR CN) ∧ Binds K fd ["self", "top"] []
  gR : mg "Tree" = some (.ref CR)
  mkW : ∃ f fd ds, Mk K CW f ∧ FnOk P w K mg base CX0 7 f fd ["self", "trees", "first", "most"] (spWoI CW CT CM CR) ∧ Binds K fd ["self", "trees", "first", "most"] ds ∧ Vals [.int 1000] ds
  gW : mg "World" = some (.ref CW)
  cW : Cn K CW woN
  shape : Mt P w K mg base 4 CW "shape" ["self"] (spShape CW CT CM)
  past : Mt P w K mg base 1 CW "past" ["self"] (spPast CW CT CM)
  ne : CR ≠ CW
/-- objects that are no state's list stay -/
theorem sbut {H H' : Hp} {l : Addr} (b : But l H H') (S : StAt l H) {e : Addr} {o : HO} (h : H e = some o) (n : ∀ st, StOk st → o ≠ .lst st) : H' e = some o := by
  obtain ⟨st, hl, ok⟩ := S
  exact b e o (ne_of h hl (n st ok)) h
theorem nil_st {st : List V} (ok : StOk st) : HO.lst [] ≠ .lst st := by
  rcases ok with ⟨c, rfl⟩ | ⟨a, b, c, rfl⟩ <;> (intro z; cases z)
theorem WAt.but {H H' : Hp} {CW CT CM a : Addr} {z : Str} {mo : Int} {x dx l1 l2 : Addr} {A : Ad} {l : Addr} (t : WAt H CW CT CM a z mo x dx l1 l2 A) (b : But l H H') (S : StAt l H) : WAt H' CW CT CM a z mo x dx l1 l2 A :=
  ⟨sbut b S t.hx (by intro st _ z; cases z), sbut b S t.h1 (fun _ ok => nil_st ok), sbut b S t.h2 (fun _ ok => nil_st ok),
    sbut b S t.t.hT (by intro st _ z; cases z), sbut b S t.t.tr (by intro st _ z; cases z), sbut b S t.t.kn (by intro st _ z; cases z), sbut b S t.t.pl (by intro st _ z; cases z), sbut b S t.t.tp (by intro st _ z; cases z), sbut b S t.t.ow (by intro st _ z; cases z), sbut b S t.t.ms (by intro st _ z; cases z), sbut b S t.t.mb (by intro st _ z; cases z), sbut b S t.t.bh (by intro st _ z; cases z), sbut b S t.t.ct (by intro st _ z; cases z), sbut b S t.t.hm (by intro st _ z; cases z), sbut b S t.t.e (by intro st _ z; cases z), sbut b S t.t.rt (by intro st _ z; cases z)⟩
theorem ShAt.but {H H' : Hp} {v : V} {z : Str} {l : Addr} (h : ShAt H v z) (b : But l H H') (S : StAt l H) : ShAt H' v z := by
  obtain ⟨p1, p2, rt, lb, on, e, h1, h2, h3, h4, h5⟩ := h
  exact ⟨p1, p2, rt, lb, on, e, sbut b S h1 (by intro st _ z; cases z), sbut b S h2 (by intro st _ z; cases z), sbut b S h3 (by intro st _ z; cases z), sbut b S h4 (by intro st _ z; cases z), sbut b S h5 (by intro st _ z; cases z)⟩
theorem same_but {H0 H H' : Hp} {l : Addr} (s : Same H0 H) (n : H0 l = none) (b : But l H H') : Same H0 H' := fun e o h => b e o (ne_of_none h n) (s e o h)
/-- the state's list, new since the start -/
structure Sn (H0 : Hp) (l : Addr) (H : Hp) : Prop where
  sm : Same H0 H
  n0 : H0 l = none
  st : StAt l H
theorem Sn.same {H0 H H' : Hp} {l : Addr} (h : Sn H0 l H) (s : Same H H') : Sn H0 l H' := ⟨h.sm.trans s, h.n0, h.st.same s⟩
theorem Sn.but {H0 H H' : Hp} {l : Addr} (h : Sn H0 l H) (b : But l H H') (S : StAt l H') : Sn H0 l H' := ⟨same_but h.sm h.n0 b, h.n0, S⟩
def TL0 (H0 : Hp) (a : Addr) : L2.St → Hp → Prop := fun σ H => ∃ k s1 s2 s3 s4 s5 s6 s7, σ = [some (.ref a), k, s1, s2, s3, s4, s5, s6, s7] ∧ Same H0 H
def TLk (H0 : Hp) (a : Addr) : L2.St → Hp → Prop := fun σ H => ∃ (k : Nat) (s1 s2 s3 s4 s5 s6 s7 : Option V), σ = [some (.ref a), some (.int k), s1, s2, s3, s4, s5, s6, s7] ∧ Same H0 H
def TL1 (H0 : Hp) (a : Addr) : L2.St → Hp → Prop := fun σ H => ∃ k l s2 s3 s4 s5 s6 s7, σ = [some (.ref a), k, some (.ref l), s2, s3, s4, s5, s6, s7] ∧ Sn H0 l H
def TL2 (H0 : Hp) (a CW CT CM : Addr) : L2.St → Hp → Prop := fun σ H => ∃ k l x s3 s4 s5 s6 s7, σ = [some (.ref a), k, some (.ref l), some (.ref x), s3, s4, s5, s6, s7] ∧ Sn H0 l H ∧ ∃ dx l1 l2 tr B, WAt H CW CT CM tr "t" 1000 x dx l1 l2 B
def TL3 (H0 : Hp) (a CW CT CM : Addr) : L2.St → Hp → Prop := fun σ H => ∃ k l x sh s4 s5 s6 s7, σ = [some (.ref a), k, some (.ref l), some (.ref x), some sh, s4, s5, s6, s7] ∧ Sn H0 l H ∧ (∃ dx l1 l2 tr B, WAt H CW CT CM tr "t" 1000 x dx l1 l2 B) ∧ ShAt H sh "t"
section
variable {P : Program} {w : World} {K : PySem.W.Frag} {mg : Str → Option Value} {base : Heap} {f : Addr} {cdv : Value} {A : Around} {outer : List Env} {s : Shared} {H0 : Hp} {E : XK} {a CW CT CM CR CN : Addr} {ns : List Int}
theorem hT0 (D : Lw P w K mg base CW CT CM CR CN) (hr : Room 14 (XLw P w K mg base f cdv A outer s H0 E).A) (hS : SqL K H0 a (ns.map V.int)) : Ho (XLw P w K mg base f cdv A outer s H0 E) (stT 0) (TLk H0 a) (TL1 H0 a) := by
  refine ⟨_, ps_set (i := 2) scLw.nd rfl (.inl rfl) (pe_lst (pa_cons (pe_op op_add (pe_cl D.cell hr (by decide) (by rfl) pass0 (pa_cons (pv 0) (pa_cons (pv 1) pa_nil))) (pe_op op_mul pe_int (pv 1))) pa_nil)), ?_⟩
  rintro D0 σ H ⟨k, s1, s2, s3, s4, s5, s6, s7, rfl, sm⟩ q
  refine ⟨_, rfl, _, rfl, a, ns, k, rfl, sm.seq hS, fun i _ => ⟨_, rfl, 17, k, rfl, rfl, .inl ⟨by decide, by decide⟩, i, _, rfl, rfl, by show 1 ≤ sizeLine; decide, fun l hl => q _ _ ⟨_, l, _, _, _, _, _, _, rfl, sm.trans (same_new hl), ?_, _, upd_same, .inl ⟨_, rfl⟩⟩⟩⟩
  cases e : H0 l with
  | none => rfl
  | some o =>
    rw [sm _ _ e] at hl
    cases hl
theorem hT1 (D : Lw P w K mg base CW CT CM CR CN) (hr : Room 14 (XLw P w K mg base f cdv A outer s H0 E).A) : Ho (XLw P w K mg base f cdv A outer s H0 E) (stT 1) (TL1 H0 a) (TL2 H0 a CW CT CM) := by
  obtain ⟨fR, fdR, MR, FR, bR⟩ := D.mkR
  obtain ⟨fW, fdW, ds, MW, FW, bW, vW⟩ := D.mkW
  refine ⟨_, ps_set (i := 3) scLw.nd rfl (.inl rfl) (pe_make MW FW (hr.mono (by decide)) (by rfl) D.gW bW vW pass0 (pa_cons (pe_disp (pps_cons pe_str (pe_make MR FR hr (by rfl) D.gR bR .nil passF (pa_cons (pe_cl D.lt hr (by decide) (by rfl) pass0 (pa_cons (pv 2) pa_nil)) pa_nil)) pps_nil) rfl rfl (by simp) (by decide)) (pa_cons pe_str pa_nil))), ?_⟩
  rintro D0 σ H ⟨k, l, s2, s3, s4, s5, s6, s7, rfl, S⟩ q
  intro p hp
  have sp := same_new (o := HO.dK []) hp
  have S1 := S.same sp
  have hp1 : upd H p (.dK []) p = some (.dK []) := upd_same
  generalize hH1 : upd H p (.dK []) = H1 at sp S1 hp1 ⊢
  refine ⟨_, rfl, l, rfl, S1.st, fun v t H2 ht hn b2 St2 => fun xR dR hxR hdR neR => ?_⟩
  have S2 := S1.but b2 St2
  have hp2 : H2 p = some (.dK []) := sbut b2 S1.st hp1 (by intro st _ z; cases z)
  obtain ⟨ks, t', n, rfl, hnv⟩ := trees5_ok ht
  have sR : Same H2 (upd (upd H2 dR (.own xR)) xR (.ins CR dR [])) := fun e o h => by
    rw [upd_ne (ne_of_none h hxR), upd_ne (ne_of_none h hdR)]
    exact h
  refine ⟨xR, dR, v, rfl, upd_same, .inl ⟨ks, hn.mono (DKeep.same sR), ?_, fun e => by rw [hnv] at e; cases e⟩⟩
  intro t'' n'' e'' H3 N kvs hx3 hN3 _ b3
  have up3 : ∀ {e : Addr} {o}, H2 e = some o → H3 e = some o := fun {e o} h => b3 e o (ne_of_none h hxR) (sR _ _ h)
  have hp3 := up3 hp2
  refine ⟨rfl, hp3, [(Sum.inr "t", .ref xR)], rfl, by show 1 ≤ 15; decide, fun xW dW hxW hdW neW => ?_⟩
  have S3 : Sn H0 l H3 := S2.same fun e o h => up3 h
  have nxp : xR ≠ p := ne_of hx3 hp3 (by intro z; cases z)
  have hx4 : upd H3 p (.dK (mergeK [] [(Sum.inr "t", .ref xR)])) xR = some (.ins CR dR (fl N)) := by
    rw [upd_ne nxp]
    exact hx3
  have S4 : Sn H0 l (upd H3 p (.dK (mergeK [] [(Sum.inr "t", .ref xR)]))) := by
    obtain ⟨st, hl, ok⟩ := S3.st
    have nlp : l ≠ p := ne_of hl hp3 (by intro z; cases z)
    have np0 : H0 p = none := by
      cases e : H0 p with
      | none => rfl
      | some o =>
        rw [S.sm _ _ e] at hp
        cases hp
    exact ⟨same_mut np0 S3.sm, S3.n0, st, by rw [upd_ne nlp]; exact hl, ok⟩
  have hp4 : upd H3 p (.dK (mergeK [] [(Sum.inr "t", .ref xR)])) p = some (.dK [((Sum.inr "t" : Key), .ref xR)]) := upd_same
  generalize hH4 : upd H3 p (.dK (mergeK [] [(Sum.inr "t", .ref xR)])) = H4 at hx4 S4 hp4 hxW hdW ⊢
  have sW : Same H4 (upd (upd H4 dW (.own xW)) xW (.ins CW dW [])) := fun e o h => by
    rw [upd_ne (ne_of_none h hxW), upd_ne (ne_of_none h hdW)]
    exact h
  refine ⟨xW, dW, p, xR, "t", 1000, rfl, ⟨upd_same, sW _ _ hp4, by decide +kernel, by decide +kernel, ⟨_, _, sW _ _ hx4⟩, ne_of_none hx4 hxW, by decide, by decide⟩, fun H5 l1 l2 B b5 W5 => ⟨rfl, q _ _ ⟨k, l, xW, _, _, _, _, _, rfl, ?_, _, _, _, _, _, W5⟩⟩⟩
  have up5 : Same H4 H5 := fun e o h => b5 e o (ne_of_none h hxW) (sW _ _ h)
  exact S4.same up5
theorem hT2 (D : Lw P w K mg base CW CT CM CR CN) (hr : Room 14 (XLw P w K mg base f cdv A outer s H0 E).A) : Ho (XLw P w K mg base f cdv A outer s H0 E) (stT 2) (TL2 H0 a CW CT CM) (TL3 H0 a CW CT CM) := by
  obtain ⟨fS, fdS, mS, FS, bS⟩ := D.shape
  refine ⟨_, ps_set (i := 4) scLw.nd rfl (.inl rfl) (pe_meth0 (pv 3) D.cW.cl mS FS (hr.mono (by decide)) bS .nil pass0), ?_⟩
  rintro D0 σ H ⟨k, l, x, s3, s4, s5, s6, s7, rfl, S, dx, l1, l2, tr, B, W⟩ q
  exact ⟨_, rfl, x, dx, _, rfl, W.hx, rfl, x, dx, l1, l2, tr, "t", 1000, B, rfl, W, fun v H' s' sh => q _ _ ⟨k, l, x, v, _, _, _, _, rfl, S.same s', ⟨dx, l1, l2, tr, B, W.same s'⟩, sh⟩⟩
end
end Tx
set_option Elab.async false
set_option linter.all false
set_option maxRecDepth 100000
set_option maxHeartbeats 16000000
namespace Tx
open PySem PySem.Spec PyProof.Rows L2 Cm Ob
def farL : List Int := [1, -1, 10 ^ 20]
theorem chk6 : chk (fun es => farL.all fun n => deedB (.tup ([.str (hdS es), .int n] ++ cutE es (some 2) none)) && (decide (hdS es ∈ formsL.map (·.1)) && (decide ((cutE es (some 2) none).length ≤ 100) && decide (1 ≤ (cutE es (some 2) none).length)))) = true := by decide +kernel
def evs7 : List EV := [.str "u", .oth, .oth, .oth, .int 5, .str "", .bl true]
theorem chk7 : (evs7.all fun e => deedB (.tup [.str "mount", .int 0, e, .str "/"])) = true := by decide +kernel
theorem bad7 {H : Hp} {v : V} {e : EV} (h : EvAt H v e) (he : e ∈ evs7) : MtBad H "t" v := by
  simp only [evs7, List.mem_cons, List.not_mem_nil, or_false] at he
  rcases he with rfl | rfl | rfl | rfl | rfl | rfl | rfl
  · exact .inr (.inr (.inr ⟨_, h.1, h.2, .inr (by decide +kernel)⟩))
  · exact .inl h
  · exact .inl h
  · exact .inl h
  · exact .inr (.inl ⟨_, h⟩)
  · exact .inr (.inr (.inr ⟨_, h.1, h.2, .inl (by decide +kernel)⟩))
  · exact .inr (.inr (.inl ⟨_, h⟩))
theorem ne_lst {H : Hp} {p l : Addr} {xs : List V} {ws : List (List EV)} (hp : H p = some (.lst xs)) (pd : Paired (TupE H) xs ws) (hw : ws ≠ []) (S : StAt l H) : p ≠ l := fun e => by
  obtain ⟨st, hl, ok⟩ := S
  rw [e, hl] at hp
  cases hp
  cases pd with
  | nil => exact hw rfl
  | cons a r =>
    obtain ⟨_, _, z, _⟩ := a
    rcases ok with ⟨c, e⟩ | ⟨a', b', c', e⟩ <;> (cases e; cases z)
theorem pdT {H H' : Hp} {l : Addr} (b : But l H H') (S : StAt l H) (S' : StAt l H') : ∀ {xs : List V} {ws : List (List EV)}, Paired (TupE H) xs ws → Paired (TupE H') xs ws
  | _, _, .nil => .nil
  | _, _, .cons a r => .cons (a.but b S S') (pdT b S S' r)
section
variable {P : Program} {w : World} {K : PySem.W.Frag} {mg : Str → Option Value} {base : Heap} {f : Addr} {cdv : Value} {A : Around} {outer : List Env} {s : Shared} {H0 : Hp} {E : XK} {a CW CT CM CR CN : Addr} {ns : List Int}
theorem hT3 (D : Lw P w K mg base CW CT CM CR CN) (hr : Room 14 (XLw P w K mg base f cdv A outer s H0 E).A) : Ho (XLw P w K mg base f cdv A outer s H0 E) (stT 3) (TL3 H0 a CW CT CM) (TL3 H0 a CW CT CM) := by
  refine ⟨_, ps_for PassesOwn.never rfl (pi_list (pe_cl D.good hr (by decide) (by rfl) pass0 (pa_cons pe_int (pa_cons (pe_cl D.dig hr (by decide) (by rfl) pass0 (pa_cons (pv 2) (pa_cons pe_int pa_nil))) pa_nil)))) (pg_name (i := 5) scLw.nd rfl (Or.inl rfl))
    (pss_cons (ps_set (i := 7) scLw.nd rfl (.inl rfl) (pe_cl D.bent hr (by decide) (by rfl) pass0 (pa_cons (pv 2) (pa_cons (pv 5) pa_nil))))
    (pss_cons (ps_set (i := 8) scLw.nd rfl (.inl rfl) (pe_op op_catA (pe_tup (pa_cons (pe_ix ix_tup (pv 5) pe_int (fun _ _ => rfl)) (pa_cons (pe_ix ix_list (pe_lst (pa_cons pe_int (pa_cons (pe_un un_neg pe_int) (pa_cons (pe_op op_pow pe_int pe_int) pa_nil)))) (pe_cl D.dig hr (by decide) (by rfl) pass0 (pa_cons (pv 2) (pa_cons pe_int pa_nil))) (fun _ _ => rfl)) pa_nil))) (pe_slice sl_tupA (pv 5) (po_some pe_int) po_none)))
    (pss_one (ps_if (PW.pt (pw_or (pt_cmpR op_ne (pe_cl D.nam hr (by decide) (by rfl) pass0 (pa_cons (pv 3) (pa_cons (pv 7) pa_nil))) pe_str (nomark _)) (pw_or1 (pt_cmpR op_ne (pe_cl D.nam hr (by decide) (by rfl) pass0 (pa_cons (pv 3) (pa_cons (pv 8) pa_nil))) pe_str (nomark _))))) (pss_one (ps_ret pe_bl)) pss_nil)))), ?_⟩
  rintro D0 σ H ⟨k, l, x, sh, s4, s5, s6, s7, rfl, S, ⟨dx, l1, l2, tr, B, W⟩, hsh⟩ q
  obtain ⟨st, hl, ok⟩ := S.st
  refine ⟨_, rfl, l, st, 4, rfl, hl, ok, by decide, by decide, fun dg st1 H1 hdg ok1 hl1 b1 => ?_⟩
  have St1 : StAt l H1 := ⟨st1, hl1, ok1⟩
  have hdg' : dg < 4 := by
    have z : (dg : Int) < 4 := hdg
    omega
  refine ⟨dg, rfl, hdg', fun kd b u H2 hkd s2 hu => ?_⟩
  obtain ⟨p, xs, rfl, hp, pd⟩ := hu
  have S2 : Sn H0 l H2 := (S.but b1 St1).same s2
  have W2 : WAt H2 CW CT CM tr "t" 1000 x dx l1 l2 B := (W.but b1 S.st).same s2
  have sh2 : ShAt H2 sh "t" := (hsh.but b1 S.st).same s2
  refine ⟨p, rfl, ⟨_, SqL.of hp⟩, for_list (K := K) (a := p) (xs := xs) (fun i σ H' => (∃ s4 s5 s6 s7, σ = [some (.ref a), k, some (.ref l), some (.ref x), some sh, s4, s5, s6, s7]) ∧ Sn H0 l H' ∧ WAt H' CW CT CM tr "t" 1000 x dx l1 l2 B ∧ ShAt H' sh "t" ∧ H' p = some (.lst xs) ∧ Paired (TupE H') xs (goodE kd b)) ⟨⟨_, _, _, _, rfl⟩, S2, W2, sh2, hp, pd⟩ (fun i σ H' _ h => SqL.of h.2.2.2.2.1) ?_ ?_⟩
  · rintro i y σ H3 hy ⟨⟨s4, s5, s6, s7, rfl⟩, S3, W3, sh3, hp3, pd3⟩
    obtain ⟨es, hes, hT⟩ := pd_at pd3 hy
    have hem : es ∈ goodE kd b := List.mem_of_getElem? hes
    have c5 := chk_at chk5 hkd hem
    simp only [Bool.and_eq_true, decide_eq_true_eq] at c5
    refine ⟨_, rfl, _, rfl, l, y, kd, b, es, rfl, S3.st, hkd, hem, hT, fun od H4 b4 St4 hod => ?_⟩
    have S4 := S3.but b4 St4
    have W4 := W3.but b4 S3.st
    have sh4 := sh3.but b4 S3.st
    have np3 : p ≠ l := ne_lst hp3 pd3 (by simp [goodE]) S3.st
    have hp4 := b4 p _ np3 hp3
    have pd4 := pdT b4 S3.st St4 pd3
    obtain ⟨d, ys, rfl, hd, pdd⟩ := hT.but b4 S3.st St4
    obtain ⟨y0, hy0, hy1⟩ : ∃ y0, ys[0]? = some y0 ∧ y0 = .str (hdS es) := by
      cases pdd with
      | nil =>
        have := c5.2.2.1
        cases this
      | @cons a e _ _ h0 _ =>
        have h := c5.2.2.1
        simp only [List.head?_cons, Option.some.injEq] at h
        rw [h] at h0
        exact ⟨a, rfl, h0.1⟩
    subst hy1
    obtain ⟨st4, hl4, ok4⟩ := id St4
    refine ⟨_, rfl, d, ys, 0, _, rfl, rfl, SqT.of hd, atI_nat (j := 0) hy0, 1, rfl, 10, 20, rfl, rfl, ⟨by decide, by decide, by decide⟩, by show 3 ≤ sizeLine; decide, fun pl hpl => ?_⟩
    have sl := same_new (o := HO.lst [V.int 1, .int (-1), .int (10 ^ Int.toNat 20)]) hpl
    refine ⟨_, rfl, l, st4, 3, rfl, sl _ _ hl4, ok4, by decide, by decide, fun dn st5 H5 hdn ok5 hl5 b5 => ?_⟩
    have St4' : StAt l (upd H4 pl (.lst [V.int 1, .int (-1), .int (10 ^ Int.toNat 20)])) := St4.same sl
    have St5 : StAt l H5 := ⟨st5, hl5, ok5⟩
    have npl : pl ≠ l := Ne.symm (ne_of_none hl4 hpl)
    have hdn' : dn < 3 := by
      have z : (dn : Int) < 3 := hdn
      omega
    obtain ⟨fn, hfn, hfm⟩ : ∃ fn : Int, [V.int 1, .int (-1), .int (10 ^ Int.toNat 20)][dn]? = some (.int fn) ∧ fn ∈ farL := by
      match dn, hdn' with
      | 0, _ => exact ⟨_, rfl, by decide +kernel⟩
      | 1, _ => exact ⟨_, rfl, by decide +kernel⟩
      | 2, _ => exact ⟨_, rfl, by decide +kernel⟩
    refine ⟨pl, _, dn, .int fn, rfl, rfl, SqL.of (b5 pl _ npl upd_same), atI_nat hfn, by show 2 ≤ sizeLine; decide, fun pt hpt => ?_⟩
    have S5 := (S4.same sl).but b5 St5
    have W5 := (W4.same sl).but b5 St4'
    have sh5 := (sh4.same sl).but b5 St4'
    have hp5 : H5 p = some (.lst xs) := b5 p _ (ne_lst hp4 pd4 (by simp [goodE]) St4) (sl _ _ hp4)
    have pd5 := pdT b5 St4' St5 (Wl.pd_mono stbT sl pd4)
    have hd5 : H5 d = some (.tup ys) := sbut b5 St4' (sl _ _ hd) (by intro st _ z; cases z)
    have pdd5 : Paired (EvAt H5) ys es := pdB b5 St4' St5 (pdE sl pdd)
    have od5 : NoD H5 od () := (stbD _ _ _ _ sl hod).but b5 St4' St5
    have st6 := same_new (o := HO.tup [V.str (hdS es), .int fn]) hpt
    have c6 := List.all_eq_true.mp (chk_at chk6 hkd hem) fn hfm
    simp only [Bool.and_eq_true, decide_eq_true_eq] at c6
    obtain ⟨f1, f2, f3, f4⟩ := c6
    have lys : ys.length = es.length := Paired.length pdd5
    have e2 : HT.sIx ys.length 0 (some 2) = 2 := (HT.sIx_nat _ _ 2).trans (by have := c5.2.2.2; omega)
    have pcut := pd_cut (some 2) none pdd5
    have lcut : (cutV ys (some 2) none).length = (cutE es (some 2) none).length := Paired.length pcut
    have hne : cutV ys (some 2) none ≠ [] := fun z => by
      rw [z] at lcut
      simp only [List.length_nil] at lcut
      omega
    refine ⟨_, rfl, 2, rfl, d, ys, rfl, SqT.of (st6 _ _ hd5), fun z => ?_, fun _ pc hpc => ?_⟩
    · have z1 := z.1
      rw [e2] at z1
      cases z1
    have s7' := same_new (o := HO.tup (cutV ys (some 2) none)) hpc
    refine ⟨pt, pc, _, _, rfl, rfl, SqT.of (s7' _ _ upd_same), SqT.of upd_same, Nat.le_of_lt (small1000 (by show 2 + _ ≤ 1000; omega)), (fun z => by cases z), (fun _ z => absurd z hne), fun _ _ pf hpf => ?_⟩
    have s8' := same_new (o := HO.tup ([V.str (hdS es), .int fn] ++ cutV ys (some 2) none)) hpf
    have s58 : Same H5 (upd (upd (upd H5 pt (.tup [V.str (hdS es), .int fn])) pc (.tup (cutV ys (some 2) none))) pf (.tup ([V.str (hdS es), .int fn] ++ cutV ys (some 2) none))) := st6.trans (s7'.trans s8')
    have hpf8 : upd (upd (upd H5 pt (.tup [V.str (hdS es), .int fn])) pc (.tup (cutV ys (some 2) none))) pf (.tup ([V.str (hdS es), .int fn] ++ cutV ys (some 2) none)) pf = some (.tup ([V.str (hdS es), .int fn] ++ cutV ys (some 2) none)) := upd_same
    generalize hH8 : upd (upd (upd H5 pt (.tup [V.str (hdS es), .int fn])) pc (.tup (cutV ys (some 2) none))) pf (.tup ([V.str (hdS es), .int fn] ++ cutV ys (some 2) none)) = H8 at s58 hpf8 ⊢
    obtain ⟨t, ht, htb⟩ := stbD _ _ _ _ s58 od5
    refine ⟨_, rfl, _, rfl, x, dx, l1, l2, tr, "t", 1000, B, od, t, rfl, W5.same s58, ht, fun hb H9 s9 => ⟨rfl, _, rfl, iteNS rfl ?_⟩, (fun hb => by rw [htb] at hb; cases hb)⟩
    have s59 := s58.trans s9
    have pF : Paired (EvAt H9) ([V.str (hdS es), .int fn] ++ cutV ys (some 2) none) ([.str (hdS es), .int fn] ++ cutE es (some 2) none) := .cons ⟨rfl, by have := c5.2.1; omega⟩ (.cons rfl (pdE s59 pcut))
    refine ⟨_, rfl, _, rfl, x, dx, l1, l2, tr, "t", 1000, B, .ref pf, .tup ([.str (hdS es), .int fn] ++ cutE es (some 2) none), rfl, W5.same s59, ⟨pf, _, rfl, s9 _ _ hpf8, pF, (by rw [List.length_append]; show 2 + (cutE es (some 2) none).length ≤ 900; omega), fun z hz => ?_⟩, (fun hb => by rw [f1] at hb; cases hb), fun _ => ⟨pf, hdS es, fn, cutV ys (some 2) none, rfl, s9 _ _ hpf8, hne, by omega, fun _ H10 s10 => ⟨rfl, _, rfl, iteF' (by simp) ?_⟩, fun h0 => ?_⟩⟩
    · cases hz
      exact .inl f2
    · have sF := s59.trans s10
      exact ⟨⟨_, _, _, _, rfl⟩, S5.same sF, W5.same sF, sh5.same sF, sF _ _ hp5, Wl.pd_mono stbT sF pd5⟩
    · exfalso
      have : ∀ n ∈ farL, n ≠ 0 := by decide +kernel
      exact this fn hfm h0
  · rintro σ H3 ⟨⟨s4, s5, s6, s7, rfl⟩, S3, W3, sh3, hp3, pd3⟩
    exact q _ _ ⟨k, l, x, sh, _, _, _, _, rfl, S3, ⟨dx, l1, l2, tr, B, W3⟩, sh3⟩
end
end Tx
set_option Elab.async false
set_option linter.all false
set_option maxRecDepth 100000
set_option maxHeartbeats 16000000
namespace Tx
open PySem PySem.Spec PyProof.Rows L2 Cm Ob
theorem gsT3 {H0 : Hp} {a CW CT CM : Addr} : Wl.Stb (TL3 H0 a CW CT CM) := fun σ H H' sm ⟨k, l, x, sh, s4, s5, s6, s7, e, S, ⟨dx, l1, l2, tr, B, W⟩, h⟩ => ⟨k, l, x, sh, s4, s5, s6, s7, e, S.same sm, ⟨dx, l1, l2, tr, B, W.same sm⟩, h.same sm⟩
theorem pe_evD {X : Cx} {G : L2.St → Hp → Prop} {pos : Pos} : PE X (.Dict [] [] pos) (Wl.tE G (fun H v e => EvAt H v e) .oth) := Wl.PE.weak pe_dnewK fun σ H Q g p hp => g.2 _ _ (same_new hp) (.inr ⟨p, rfl, .inr (.inr ⟨_, upd_same⟩)⟩)
def shD (z : Str) : PyData := .tuple [.tuple [.int 0, .str z, .tuple [], .tuple [.str "alone", .none, .none, .int 0, .bool false], .tuple []]]
theorem ShAt.dp {K : PySem.W.Frag} {H : Hp} {v : V} {z : Str} (h : ShAt H v z) : Dp K H v (shD z) := by
  obtain ⟨p1, p2, rt, lb, on, rfl, h1, h2, h3, h4, h5⟩ := h
  exact .tup (SqT.of h1) (.cons (.tup (SqT.of h2) (.cons (.int 0) (.cons (.str z) (.cons (.tup (SqT.of h3) .nil) (.cons (.tup (SqT.of h4) (.cons (.str _) (.cons .non (.cons .non (.cons (.int 0) (.cons (.bl false) .nil)))))) (.cons (.tup (SqT.of h5) .nil) .nil)))))) .nil)
def spLaw (K : PySem.W.Frag) : Sp := fun vs H Q _ => ∃ (a : Addr) (ns : List Int), vs = [.ref a] ∧ SqL K H a (ns.map V.int) ∧ ns.length ≤ 63 ∧ ∀ H', Q (.bl true) H'
section
variable {P : Program} {w : World} {K : PySem.W.Frag} {mg : Str → Option Value} {base : Heap} {f : Addr} {cdv : Value} {A : Around} {outer : List Env} {s : Shared} {H0 : Hp} {E : XK} {a CW CT CM CR CN : Addr} {ns : List Int}
theorem hT4 (D : Lw P w K mg base CW CT CM CR CN) (hr : Room 14 (XLw P w K mg base f cdv A outer s H0 E).A) : Ho (XLw P w K mg base f cdv A outer s H0 E) (stT 4) (TL3 H0 a CW CT CM) (TL3 H0 a CW CT CM) := by
  refine ⟨_, ps_for PassesOwn.never rfl (pi_list (Wl.pe_l stbEv (by show 7 ≤ 1000; decide) (Wl.pa_c (gsT3 (H0 := H0) (a := a) (CW := CW) (CT := CT) (CM := CM)) stbEv (pe_evS (by decide +kernel)) (Wl.pa_c (gsT3 (H0 := H0) (a := a) (CW := CW) (CT := CT) (CM := CM)) stbEv (pe_evN) (Wl.pa_c (gsT3 (H0 := H0) (a := a) (CW := CW) (CT := CT) (CM := CM)) stbEv (pe_evL) (Wl.pa_c (gsT3 (H0 := H0) (a := a) (CW := CW) (CT := CT) (CM := CM)) stbEv (pe_evD) (Wl.pa_c (gsT3 (H0 := H0) (a := a) (CW := CW) (CT := CT) (CM := CM)) stbEv (pe_evI) (Wl.pa_c (gsT3 (H0 := H0) (a := a) (CW := CW) (CT := CT) (CM := CM)) stbEv (pe_evS (by decide +kernel)) (Wl.pa_c (gsT3 (H0 := H0) (a := a) (CW := CW) (CT := CT) (CM := CM)) stbEv (pe_evB) (Wl.pa_n _ _)))))))))) (pg_name (i := 6) scLw.nd rfl (Or.inl rfl))
    (pss_one (ps_if (pt_cmpR op_ne (pe_cl D.nam hr (by decide) (by rfl) pass0 (pa_cons (pv 3) (pa_cons (pe_tup (pa_cons pe_str (pa_cons pe_int (pa_cons (pv 6) (pa_cons pe_str pa_nil))))) pa_nil))) pe_str (nomark _)) (pss_one (ps_ret pe_bl)) pss_nil)), ?_⟩
  rintro D0 σ H g q
  refine ⟨g, fun u H1 s1 r1 => ?_⟩
  obtain ⟨p, xs, rfl, hp, pd⟩ := r1
  refine ⟨p, rfl, ⟨_, SqL.of hp⟩, for_list (K := K) (a := p) (xs := xs) (fun i σ H' => TL3 H0 a CW CT CM σ H' ∧ H' p = some (.lst xs) ∧ Paired (fun v e => EvAt H' v e) xs evs7) ⟨gsT3 _ _ _ s1 g, hp, pd⟩ (fun i σ H' _ h => SqL.of h.2.1) ?_ (fun σ H' h => q _ _ h.1)⟩
  rintro i y σ H2 hy ⟨g2, hp2, pd2⟩
  obtain ⟨k, l, x, sh, s4, s5, s6, s7, rfl, S, ⟨dx, l1, l2, tr, B, W⟩, hsh⟩ := g2
  obtain ⟨e, he, hev⟩ := pd_at pd2 hy
  have hem : e ∈ evs7 := List.mem_of_getElem? he
  refine ⟨_, rfl, _, rfl, by show 4 ≤ sizeLine; decide, fun pt hpt => ?_⟩
  have s3 := same_new (o := HO.tup [V.str "mount", .int 0, y, .str "/"]) hpt
  have hb3 := List.all_eq_true.mp chk7 e hem
  refine ⟨x, dx, l1, l2, tr, "t", 1000, B, .ref pt, .tup [.str "mount", .int 0, e, .str "/"], rfl, W.same s3, ⟨pt, _, rfl, upd_same, .cons ⟨rfl, by decide +kernel⟩ (.cons rfl (.cons (hev.same s3) (.cons ⟨rfl, by decide +kernel⟩ .nil))), by show 4 ≤ 900; decide, fun z hz => ?_⟩, (fun hb => by rw [hb3] at hb; cases hb), fun _ => ⟨pt, "mount", 0, _, rfl, upd_same, by simp, by show 2 ≤ 100; decide, fun h0 => absurd rfl h0, fun _ => ⟨rfl, y, _, rfl, bad7 (hev.same s3) hem, fun H4 s4' => ⟨rfl, _, rfl, iteF' (by simp) ?_⟩⟩⟩⟩
  · cases hz
    exact .inl (by decide +kernel)
  · have s24 := s3.trans s4'
    exact ⟨⟨k, l, x, sh, _, _, _, _, rfl, S.same s24, ⟨dx, l1, l2, tr, B, W.same s24⟩, hsh.same s24⟩, s24 _ _ hp2, Wl.pd_mono stbEv s24 pd2⟩
theorem hT5 (D : Lw P w K mg base CW CT CM CR CN) (hr : Room 14 (XLw P w K mg base f cdv A outer s H0 E).A) : Ho (XLw P w K mg base f cdv A outer s H0 E) (stT 5) (TL3 H0 a CW CT CM) (TL0 H0 a) := by
  obtain ⟨fS, fdS, mS, FS, bS⟩ := D.shape
  obtain ⟨fP, fdP, mP, FP, bP⟩ := D.past
  refine ⟨_, ps_if (PW.pt (pw_or (pt_cmpR (op_neD hr.units) (pe_meth0 (pv 3) D.cW.cl mS FS (hr.mono (by decide)) bS .nil pass0) (pv 4) (nomark _)) (pw_or1 (pt_cmpR (op_neD hr.units) (pe_meth0 (pv 3) D.cW.cl mP FP (hr.mono (by decide)) bP .nil pass0) (pe_lst pa_nil) (nomark _))))) (pss_one (ps_ret pe_bl)) pss_nil, ?_⟩
  rintro D0 σ H ⟨k, l, x, sh, s4, s5, s6, s7, rfl, S, ⟨dx, l1, l2, tr, B, W⟩, hsh⟩ q
  refine ⟨_, rfl, x, dx, _, rfl, W.hx, rfl, x, dx, l1, l2, tr, "t", 1000, B, rfl, W, fun v H1 s1 sh1 => ?_⟩
  refine ⟨_, rfl, shD "t", shD "t", sh1.dp, (hsh.same s1).dp, by decide +kernel, by decide +kernel, _, rfl, iteF' (by decide +kernel) ?_⟩
  have W1 := W.same s1
  refine ⟨_, rfl, x, dx, _, rfl, W1.hx, rfl, x, dx, l1, l2, tr, "t", 1000, B, rfl, W1, fun p H2 s2 hp => ?_⟩
  refine ⟨by show 0 ≤ sizeLine; decide, fun p2 hp2 => ?_⟩
  have s3 := same_new (o := HO.lst []) hp2
  refine ⟨.list [], .list [], .lst (SqL.of (s3 _ _ hp)) .nil, .lst (SqL.of upd_same) .nil, by decide +kernel, by decide +kernel, _, rfl, iteF' (by decide +kernel) (q _ _ ⟨_, _, _, _, _, _, _, _, rfl, S.sm.trans (s1.trans (s2.trans s3))⟩)⟩
end
section
variable {P : Program} {w : World} {K : PySem.W.Frag} {mg : Str → Option Value} {base : Heap} {f : Addr} {fd : FuncData} {CW CT CM CR CN : Addr}
theorem ok_law (F : Fun K "law" "law" sLaw f fd) (B' : Bi mg) (hmax : mg "max" = none) (hmin : mg "min" = none) (D : Lw P w K mg base CW CT CM CR CN) : FnOk P w K mg base CX0 15 f fd ["_law_script"] (spLaw K) := by
  refine F.ok scLw (fun vs H Q E h => ?_) (fun cdv A outer s H vs Q E hr h => ?_)
  · obtain ⟨x, ns, rfl, _⟩ := h
    rfl
  · obtain ⟨a, ns, rfl, hS, hlen, q⟩ := h
    rw [bodyLaw]
    have hr' : Room 14 (XLw P w K mg base f cdv A outer s H E).A := hr
    obtain ⟨tb, hb, rb⟩ := Ob.HoS.cons (hT0 (a := a) D hr' hS) (Ob.HoS.cons (hT1 D hr') (Ob.HoS.cons (hT2 D hr') (Ob.HoS.cons (hT3 D hr') (Ob.HoS.cons (hT4 D hr') (Ob.HoS.cons (hT5 D hr') Ob.HoS.nil)))))
    refine ⟨_, pss_cons (ps_for PassesOwn.never rfl (pi_range1 (by rfl) B'.range (pa_cons (pe_callB (call_max2 rfl) (by rfl) hmax (by decide +kernel) (pa_cons pe_int (pa_cons (pe_callB (call_min2 rfl) (by rfl) hmin (by decide +kernel) (pa_cons pe_int (pa_cons (pe_callB call_len_seq (by rfl) B'.len PySem.boot_len (pa_cons (pv 0) pa_nil)) pa_nil))) pa_nil))) pa_nil)) (pg_name (i := 1) scLw.nd rfl (Or.inl rfl)) hb) (pss_one (ps_ret pe_bl)), ?_⟩
    refine ⟨_, rfl, a, _, rfl, .inl hS, _, _, rfl, _, _, rfl, _, rfl, ?_, ?_, for_it walk_range (fun i σ H2 => TL0 H a σ H2) ⟨_, _, _, _, _, _, _, _, rfl, Same.refl H⟩ (fun _ _ _ _ _ => True.intro) ?_ (fun σ H2 h => q H2)⟩
    · split <;> split <;> omega
    · split <;> split <;> omega
    · rintro i y σ H2 H3 hi ⟨k, s1, s2, s3, s4, s5, s6, s7, rfl, sm⟩ ⟨rfl, rfl⟩
      have e : ((0 : Int) + (i : Nat)) = (i : Nat) := Int.zero_add _
      show tb _ [some (.ref a), some (.int (0 + (i : Nat))), s1, s2, s3, s4, s5, s6, s7] _
      rw [e]
      exact rb _ _ _ ⟨i, _, _, _, _, _, _, _, rfl, sm⟩ fun σ' H' h => h
end
end Tx
set_option Elab.async false
set_option linter.all false
set_option maxRecDepth 100000
set_option maxHeartbeats 2000000
/-! a Hook that looks at few objects, by their names -/
namespace Hk
open PySem PySem.Spec PyProof.Rows L2 He
abbrev Get : Type := Addr → Option Obj
/-- the names whose objects are looked at -/
structure Few where
  cls : List Str
  fns : List Str
  oth : List Str
  mts : List (Str × Str)
def nsA (g : Get) (C : Addr) : Addr := match g C with
  | some ⟨_, _, .cls cd, _⟩ => cd.ns
  | _ => 0
def inD (g : Get) (d : Addr) (x : Str) : Addr := match g d with
  | some ⟨_, _, .dict es _, _⟩ => (match es.toList.find? (·.key.isStr x) with
    | some e => (match e.val with | .ref a => a | _ => 0)
    | none => 0)
  | _ => 0
def cdA (g : Get) (f : Addr) : List Addr := match g f with
  | some ⟨_, _, .func fd, _⟩ => refV fd.code ++ refV fd.defaults
  | _ => []
def subA (g : Get) (a : Addr) : List Addr := match g a with
  | some ⟨_, _, .dict es _, _⟩ => es.toList.flatMap fun e => refV e.val
  | _ => []
def asF (g : Get) (F : Few) : List Addr :=
  let cs := F.cls.map (inD g mainGlobals)
  let fs := F.fns.map (inD g mainGlobals) ++ F.mts.map (fun p => inD g (nsA g (inD g mainGlobals p.1)) p.2)
  let os := F.oth.map (inD g mainGlobals)
  mainGlobals :: (cs ++ (cs.map (nsA g) ++ (fs ++ (fs.flatMap (cdA g) ++ (os ++ os.flatMap (subA g))))))
abbrev Al : Type := AlT × Bool
def obs (F : Few) (fa : List Fa) (fn : List DefD) (ts : List Tab) (ex : PySem.W.Frag → Bool) (g : Get) : Al := (obsT fa fn ts (frG g (asF g F)), ex (frG g (asF g F)))
def val (fn : List DefD) (ts : List Tab) (w : World) : Al := (valT fn ts w, true)
structure Says (fa : List Fa) (fn : List DefD) (ts : List Tab) (ex : PySem.W.Frag → Bool) (w : World) (K : PySem.W.Frag) : Prop where
  t : SaysT fa fn ts w K
  more : ex K = true
def hook (F : Few) (fa : List Fa) (fn : List DefD) (ts : List Tab) (ex : PySem.W.Frag → Bool) : PySem.W.Hook where
  α := Al
  obs := fun s => obs F fa fn ts ex s.heap.get?
  val := fun w => val fn ts w
  says := fun w h => ∃ K : PySem.W.Frag, K.In h ∧ Says fa fn ts ex w K
  of := fun _ _ e => ⟨_, frG_in, congrArg (fun z : Al => z.1) e, congrArg (fun z : Al => z.2) e⟩
  keeps := fun _ _ _ ⟨K, hK, c⟩ k => ⟨K, PySem.W.Frag.In.keeps hK k, c⟩
theorem obs_eq {F : Few} {fa : List Fa} {fn : List DefD} {ts : List Tab} {ex : PySem.W.Frag → Bool} {g : Get} {s : Shared} (h : ∀ a, g a = s.heap.get? a) : obs F fa fn ts ex g = (hook F fa fn ts ex).obs s := by
  have e : g = s.heap.get? := funext h
  rw [e] <;> rfl
end Hk
set_option Elab.async false
set_option linter.all false
set_option maxRecDepth 100000
set_option maxHeartbeats 0
namespace Hx
open PySem PySem.Spec PyProof.Rows L2 Tx
def ns0 : List Str := ["_wall", "__name__", "nearest", "Spread", "takers", "attach", "MountError", "NoTree", "NoNumber", "NoSpace", "NoMount", "NoDeed", "NoRight", "NotDir", "NotMount", "AtRoot"]
def ns1 : List Str := ["Unbindable", "Locked", "Shared", "Loop", "Busy", "NoPath", "TooMany", "LETTERS", "MOST_NODES", "MOST_DEPTH", "is_whole", "is_name", "is_path", "is_absolute", "parts_of", "node_value"]
def ns2 : List Str := ["Tree", "within", "MOST_LINKS", "Walker", "space_root", "walk_in", "KINDS", "FORMS", "is_entry", "is_deed", "place_in", "mount_in", "do_mount", "source_in", "on_within", "shown_copy"]
def ns3 : List Str := ["do_bind", "bound_with", "do_bind_all", "do_move", "do_make", "do_make_all", "make_one", "do_clone", "sure_unmountable", "do_unmount", "do_unmount_all", "candidates_of", "bearer", "may_go", "taken_away", "make_deed"]
def ns4 : List Str := ["sure_deed", "Mount", "Table", "are_trees", "World", "plain_form", "Labels", "_law_cell_at", "_law_digit", "_law_tree", "_law_named", "_law_good", "_law_bent"]
abbrev loose : List Str := ns0 ++ ns1 ++ ns2 ++ ns3 ++ ns4
def d_is_whole : He.DefD := ⟨("is_whole", none), "is_whole", "is_whole", defArgs sWhole, defBody sWhole, defScope sWhole, [], []⟩
def d_is_name : He.DefD := ⟨("is_name", none), "is_name", "is_name", defArgs sName, defBody sName, defScope sName, [], []⟩
def d_is_path : He.DefD := ⟨("is_path", none), "is_path", "is_path", defArgs sPath, defBody sPath, defScope sPath, [], []⟩
def d_is_absolute : He.DefD := ⟨("is_absolute", none), "is_absolute", "is_absolute", defArgs sAbs, defBody sAbs, defScope sAbs, [], []⟩
def d_node_value : He.DefD := ⟨("node_value", none), "node_value", "node_value", defArgs sNode, defBody sNode, defScope sNode, [], []⟩
def d_is_entry : He.DefD := ⟨("is_entry", none), "is_entry", "is_entry", defArgs sEntry, defBody sEntry, defScope sEntry, [], []⟩
def d_is_deed : He.DefD := ⟨("is_deed", none), "is_deed", "is_deed", defArgs sIsDeed, defBody sIsDeed, defScope sIsDeed, [], []⟩
def d_do_mount : He.DefD := ⟨("do_mount", none), "do_mount", "do_mount", defArgs sDoMount, defBody sDoMount, defScope sDoMount, [], []⟩
def d_make_deed : He.DefD := ⟨("make_deed", none), "make_deed", "make_deed", defArgs sMakeDeed, defBody sMakeDeed, defScope sMakeDeed, [], []⟩
def d_sure_deed : He.DefD := ⟨("sure_deed", none), "sure_deed", "sure_deed", defArgs sSureDeed, defBody sSureDeed, defScope sSureDeed, [], []⟩
def d_are_trees : He.DefD := ⟨("are_trees", none), "are_trees", "are_trees", defArgs sAreTrees, defBody sAreTrees, defScope sAreTrees, [], []⟩
def d__law_cell_at : He.DefD := ⟨("_law_cell_at", none), "_law_cell_at", "_law_cell_at", defArgs sCell, defBody sCell, defScope sCell, [], []⟩
def d__law_digit : He.DefD := ⟨("_law_digit", none), "_law_digit", "_law_digit", defArgs sDigit, defBody sDigit, defScope sDigit, [], []⟩
def d__law_tree : He.DefD := ⟨("_law_tree", none), "_law_tree", "_law_tree", defArgs sLTree, defBody sLTree, defScope sLTree, [], []⟩
def d__law_named : He.DefD := ⟨("_law_named", none), "_law_named", "_law_named", defArgs sNamed, defBody sNamed, defScope sNamed, [], []⟩
def d__law_good : He.DefD := ⟨("_law_good", none), "_law_good", "_law_good", defArgs sGood, defBody sGood, defScope sGood, [], []⟩
def d__law_bent : He.DefD := ⟨("_law_bent", none), "_law_bent", "_law_bent", defArgs sBent, defBody sBent, defScope sBent, [], []⟩
def d_law : He.DefD := ⟨("law", none), "law", "law", defArgs sLaw, defBody sLaw, defScope sLaw, [], []⟩
def d_Tree___init__ : He.DefD := ⟨("Tree", some "__init__"), "__init__", "Tree.__init__", defArgs sInit, defBody sInit, defScope sInit, [], []⟩
def d_Mount___init__ : He.DefD := ⟨("Mount", some "__init__"), "__init__", "Mount.__init__", defArgs sMtI, defBody sMtI, defScope sMtI, [], []⟩
def d_Mount_copied : He.DefD := ⟨("Mount", some "copied"), "copied", "Mount.copied", defArgs sMtC, defBody sMtC, defScope sMtC, [], []⟩
def d_Mount_kind : He.DefD := ⟨("Mount", some "kind"), "kind", "Mount.kind", defArgs sMtK, defBody sMtK, defScope sMtK, [], []⟩
def d_Table___init__ : He.DefD := ⟨("Table", some "__init__"), "__init__", "Table.__init__", defArgs sTbI, defBody sTbI, defScope sTbI, [], []⟩
def d_Table_copied : He.DefD := ⟨("Table", some "copied"), "copied", "Table.copied", defArgs sTbC, defBody sTbC, defScope sTbC, [], []⟩
def d_Table_next : He.DefD := ⟨("Table", some "next"), "next", "Table.next", defArgs sNext, defBody sNext, defScope sNext, [], []⟩
def d_Table_sure_space : He.DefD := ⟨("Table", some "sure_space"), "sure_space", "Table.sure_space", defArgs sSureS, defBody sSureS, defScope sSureS, [], []⟩
def d_Table_new_mount : He.DefD := ⟨("Table", some "new_mount"), "new_mount", "Table.new_mount", defArgs sNewM, defBody sNewM, defScope sNewM, [], []⟩
def d_Table_children : He.DefD := ⟨("Table", some "children"), "children", "Table.children", defArgs sChild, defBody sChild, defScope sChild, [], []⟩
def d_World___init__ : He.DefD := ⟨("World", some "__init__"), "__init__", "World.__init__", defArgs sWoI, defBody sWoI, defScope sWoI, [.int 1000], []⟩
def d_World_do : He.DefD := ⟨("World", some "do"), "do", "World.do", defArgs sDo, defBody sDo, defScope sDo, [], []⟩
def d_World_stood : He.DefD := ⟨("World", some "stood"), "stood", "World.stood", defArgs sStood, defBody sStood, defScope sStood, [], []⟩
def d_World_past : He.DefD := ⟨("World", some "past"), "past", "World.past", defArgs sPast, defBody sPast, defScope sPast, [], []⟩
def d_World_spaces : He.DefD := ⟨("World", some "spaces"), "spaces", "World.spaces", defArgs sSpaces, defBody sSpaces, defScope sSpaces, [], []⟩
def d_World_shape : He.DefD := ⟨("World", some "shape"), "shape", "World.shape", defArgs sShape, defBody sShape, defScope sShape, [], []⟩
def d_Labels___init__ : He.DefD := ⟨("Labels", some "__init__"), "__init__", "Labels.__init__", defArgs sLbI, defBody sLbI, defScope sLbI, [], []⟩
def d_Labels_group_label : He.DefD := ⟨("Labels", some "group_label"), "group_label", "Labels.group_label", defArgs sLbG, defBody sLbG, defScope sLbG, [], []⟩
def d_Labels_label : He.DefD := ⟨("Labels", some "label"), "label", "Labels.label", defArgs sLbL, defBody sLbL, defScope sLbL, [], []⟩
def d_Labels_form : He.DefD := ⟨("Labels", some "form"), "form", "Labels.form", defArgs sLbF, defBody sLbF, defScope sLbF, [], []⟩
def fn1 : List He.DefD := [d_is_whole, d_is_name, d_is_path, d_is_absolute, d_node_value, d_is_entry, d_is_deed, d_do_mount, d_make_deed, d_sure_deed, d_are_trees, d__law_cell_at, d__law_digit, d__law_tree, d__law_named, d__law_good, d__law_bent, d_law]
def fn2 : List He.DefD := [d_Tree___init__, d_Mount___init__, d_Mount_copied, d_Mount_kind, d_Table___init__, d_Table_copied, d_Table_next, d_Table_sure_space, d_Table_new_mount, d_Table_children, d_World___init__, d_World_do, d_World_stood, d_World_past, d_World_spaces, d_World_shape, d_Labels___init__, d_Labels_group_label, d_Labels_label, d_Labels_form]
def fn : List He.DefD := fn1 ++ fn2
def fa1 : List He.Fa := [.free "isinstance", .free "int", .free "bool", .free "str", .free "dict", .free "tuple", .free "range", .free "len", .free "all", .free "any", .free "sorted", .free "zip", .free "list", .free "max", .free "min"]
def fa2 : List He.Fa := [.glo "is_whole", .glo "is_name", .glo "is_path", .glo "is_absolute", .glo "node_value", .glo "is_entry", .glo "is_deed", .glo "do_mount", .glo "make_deed", .glo "sure_deed", .glo "are_trees", .glo "_law_cell_at", .glo "_law_digit", .glo "_law_tree", .glo "_law_named", .glo "_law_good", .glo "_law_bent"]
def fa3 : List He.Fa := [.glo "law", .glo "Tree", .glo "Mount", .glo "Table", .glo "World", .glo "Labels", .glo "MountError", .glo "NoDeed", .glo "NoSpace", .glo "NoTree", .glo "KINDS", .glo "FORMS", .glo "do_bind", .glo "do_bind_all", .glo "do_move", .glo "do_make", .glo "do_make_all"]
def fa4 : List He.Fa := [.str "LETTERS" letters, .int "MOST_NODES" 60, .int "MOST_DEPTH" 8, .cls "Tree", .cls "Mount", .cls "Table", .cls "World", .cls "Labels", .noat "Tree" "nodes", .mkr "Tree", .mkr "Mount", .mkr "Table", .mkr "World", .mkr "Labels", .exc "NoDeed", .exc "NoSpace", .exc "NoTree", .exm "NoDeed" "MountError" true, .exm "NoSpace" "MountError" true, .exm "NoTree" "MountError" true, .exm "NoTree" "NoTree" true]
def fa5 : List He.Fa := [.meth "Mount" "copied", .meth "Mount" "kind", .meth "Table" "copied", .meth "Table" "next", .meth "Table" "sure_space", .meth "Table" "new_mount", .meth "Table" "children", .meth "World" "do", .meth "World" "stood", .meth "World" "past", .meth "World" "spaces", .meth "World" "shape", .meth "Labels" "group_label", .meth "Labels" "label", .meth "Labels" "form"]
def fa6 : List He.Fa := (mtN.map fun f => He.Fa.noat "Mount" f) ++ ((tbN.map fun f => He.Fa.noat "Table" f) ++ ((woN.map fun f => He.Fa.noat "World" f) ++ (lbN.map fun f => He.Fa.noat "Labels" f)))
def fa : List He.Fa := fa1 ++ (fa2 ++ (fa3 ++ (fa4 ++ (fa5 ++ fa6))))
def ts : List He.Tab := [(fun K => He.ga K "FORMS", formsL.map (·.1))]
/-- an error, as isinstance asks it -/
def excB (K : PySem.W.Frag) (D : Addr) : Bool :=
  decide (PySem.W.findIn K (.ref D) "__getattribute__" = some (some (.builtin "BaseException.__getattribute__"))) && (decide (PySem.W.findIn K (.ref D) "__getattr__" = some none) && (decide (PySem.W.subIn K (.ref D) (.type "BaseException") = some true) && (PySem.W.hasDictIn K D &&
  (decide (PySem.W.findIn K (.ref D) "__class__" = some (some (.builtin "object.__class__"))) && (decide (PySem.W.specialIn K (.builtin "object.__class__") "__get__" = some (some (.builtin "getset_descriptor.__get__"))) && (decide (PySem.W.takesIn K (.builtin "object.__class__") = some true) && decide (PySem.W.mroIn K D (.type "object") = some true)))))))
theorem excB_ok {K : PySem.W.Frag} {D : Addr} (h : excB K D = true) : ExcC K D := by
  simp only [excB, Bool.and_eq_true, decide_eq_true_eq] at h
  obtain ⟨h1, h2, h3, h4, h5, h6, h7, h8⟩ := h
  exact ⟨h1, h2, h3, h4, h5, h6, h7, h8⟩
def trB (K : PySem.W.Frag) (C : Addr) : Bool := decide (PySem.W.findIn K (.ref C) "__class__" = some (some (.builtin "object.__class__"))) && (decide (PySem.W.specialIn K (.builtin "object.__class__") "__get__" = some (some (.builtin "getset_descriptor.__get__"))) && (decide (PySem.W.takesIn K (.builtin "object.__class__") = some true) && (decide (PySem.W.mroIn K C (.type "object") = some true) && decide (PySem.W.kitOne K (.ref C) (.ref C) = some true))))
def errs : List Str := ["NoDeed", "NoSpace", "NoTree"]
def kitB3 (K : PySem.W.Frag) : Bool := errs.all fun x => errs.all fun y => decide (PySem.W.kitOne K (.ref (He.ga K x)) (.ref (He.ga K y)) = some (x == y))
/-- a tuple of texts at an address -/
def tupA (K : PySem.W.Frag) (a : Addr) (ws : List Str) : Bool := match K.lookup a with
  | some ⟨.type c, _, .seq its _, _⟩ => decide (c = "tuple") && (decide (its.size ≤ 100) && He.relAll (ws.map V.str) its.toList)
  | _ => false
theorem tupA_ok {K : PySem.W.Frag} {a : Addr} {ws : List Str} (h : tupA K a ws = true) (H : Hp) : SqT K H a (ws.map V.str) := by
  unfold tupA at h
  split at h
  · rename_i c d its n sl q
    simp only [Bool.and_eq_true, decide_eq_true_eq] at h
    obtain ⟨h1, h2, h3⟩ := h
    subst h1
    exact .inr ⟨_, its, n, q, rfl, rfl, by rw [sizeLine_eq]; omega, He.relAll_ok h3⟩
  · cases h
def formB (K : PySem.W.Frag) : Bool := (formsL.all fun p => match PySem.W.nsIn K (He.ga K "FORMS") p.1 with
  | some (some (.ref t)) => tupA K t p.2
  | _ => false) && noWords.all fun z => decide (PySem.W.nsIn K (He.ga K "FORMS") z = some none)
def exB (K : PySem.W.Frag) : Bool := (errs.all fun x => excB K (He.ga K x)) && (trB K (He.ga K "Tree") && (kitB3 K && (tupA K (He.ga K "KINDS") kindsL && (formB K && !(He.ga K "Tree" == He.ga K "World")))))
abbrev R : PySem.W.OpenRow := PySem.W.OpenLaw.row PySem.Challenge.rw_spreadmounts_k14_what_is_no_deed
def few : Hk.Few := ⟨["Tree", "Mount", "Table", "World", "Labels", "MountError", "NoDeed", "NoSpace", "NoTree"], ["is_whole", "is_name", "is_path", "is_absolute", "node_value", "is_entry", "is_deed", "do_mount", "make_deed", "sure_deed", "are_trees", "_law_cell_at", "_law_digit", "_law_tree", "_law_named", "_law_good", "_law_bent", "law"], ["KINDS", "FORMS"], [("Tree", "__init__"), ("Mount", "__init__"), ("Mount", "copied"), ("Mount", "kind"), ("Table", "__init__"), ("Table", "copied"), ("Table", "next"), ("Table", "sure_space"), ("Table", "new_mount"), ("Table", "children"), ("World", "__init__"), ("World", "do"), ("World", "stood"), ("World", "past"), ("World", "spaces"), ("World", "shape"), ("Labels", "__init__"), ("Labels", "group_label"), ("Labels", "label"), ("Labels", "form")]⟩
abbrev hk : PySem.W.Hook := Hk.hook few fa fn ts exB
def ob (s : PySem.W.SharedT) : Hk.Al := Hk.obs few fa fn ts exB (HandSHeadRun.getT s)
theorem ob_eq (s : PySem.W.SharedT) : ob s = hk.obs s.abs := Hk.obs_eq (HandSHeadRun.getT_eq s)
theorem runF (w : World) : HandSHeadRun.RunEq R (PySem.W.view R.prog [84]) hk ob 60000 loose (w.withFollow "special-get-raises" false) := by
  intro os
  kernel_rfl
end Hx
set_option Elab.async false
set_option linter.all false
set_option maxRecDepth 100000
set_option maxHeartbeats 16000000
namespace Hx
open PySem PySem.Spec PyProof.Rows L2 Tx Cm
section
variable {P : Program} {w : World} {K : PySem.W.Frag} {h : Heap} {mg : Str → Option Value} {base : Heap}
theorem f_is_whole (c : He.SaysD fa fn K) : ∃ fd, Fun K "is_whole" "is_whole" sWhole (He.ga K "is_whole") fd ∧ Binds K fd ["thing", "low", "high"] [] := by
  obtain ⟨fd, F⟩ := c.def_ 0 (d := d_is_whole) rfl
  have F1 : Fun K "is_whole" "is_whole" sWhole (He.ga K "is_whole") fd := He5.fun_of F
  exact ⟨fd, F1, F1.binds (ps := ["thing", "low", "high"]) fun _ _ _ _ _ _ us hl => match us, hl with | [_, _, _], _ => rfl⟩
theorem f_is_name (c : He.SaysD fa fn K) : ∃ fd, Fun K "is_name" "is_name" sName (He.ga K "is_name") fd ∧ Binds K fd ["thing"] [] := by
  obtain ⟨fd, F⟩ := c.def_ 1 (d := d_is_name) rfl
  have F1 : Fun K "is_name" "is_name" sName (He.ga K "is_name") fd := He5.fun_of F
  exact ⟨fd, F1, F1.binds (ps := ["thing"]) fun _ _ _ _ _ _ us hl => match us, hl with | [_], _ => rfl⟩
theorem f_is_path (c : He.SaysD fa fn K) : ∃ fd, Fun K "is_path" "is_path" sPath (He.ga K "is_path") fd ∧ Binds K fd ["thing"] [] := by
  obtain ⟨fd, F⟩ := c.def_ 2 (d := d_is_path) rfl
  have F1 : Fun K "is_path" "is_path" sPath (He.ga K "is_path") fd := He5.fun_of F
  exact ⟨fd, F1, F1.binds (ps := ["thing"]) fun _ _ _ _ _ _ us hl => match us, hl with | [_], _ => rfl⟩
theorem f_is_absolute (c : He.SaysD fa fn K) : ∃ fd, Fun K "is_absolute" "is_absolute" sAbs (He.ga K "is_absolute") fd ∧ Binds K fd ["path"] [] := by
  obtain ⟨fd, F⟩ := c.def_ 3 (d := d_is_absolute) rfl
  have F1 : Fun K "is_absolute" "is_absolute" sAbs (He.ga K "is_absolute") fd := He5.fun_of F
  exact ⟨fd, F1, F1.binds (ps := ["path"]) fun _ _ _ _ _ _ us hl => match us, hl with | [_], _ => rfl⟩
theorem f_node_value (c : He.SaysD fa fn K) : ∃ fd, Fun K "node_value" "node_value" sNode (He.ga K "node_value") fd ∧ Binds K fd ["thing", "depth", "met"] [] := by
  obtain ⟨fd, F⟩ := c.def_ 4 (d := d_node_value) rfl
  have F1 : Fun K "node_value" "node_value" sNode (He.ga K "node_value") fd := He5.fun_of F
  exact ⟨fd, F1, F1.binds (ps := ["thing", "depth", "met"]) fun _ _ _ _ _ _ us hl => match us, hl with | [_, _, _], _ => rfl⟩
theorem f_is_entry (c : He.SaysD fa fn K) : ∃ fd, Fun K "is_entry" "is_entry" sEntry (He.ga K "is_entry") fd ∧ Binds K fd ["thing", "sort"] [] := by
  obtain ⟨fd, F⟩ := c.def_ 5 (d := d_is_entry) rfl
  have F1 : Fun K "is_entry" "is_entry" sEntry (He.ga K "is_entry") fd := He5.fun_of F
  exact ⟨fd, F1, F1.binds (ps := ["thing", "sort"]) fun _ _ _ _ _ _ us hl => match us, hl with | [_, _], _ => rfl⟩
theorem f_is_deed (c : He.SaysD fa fn K) : ∃ fd, Fun K "is_deed" "is_deed" sIsDeed (He.ga K "is_deed") fd ∧ Binds K fd ["thing"] [] := by
  obtain ⟨fd, F⟩ := c.def_ 6 (d := d_is_deed) rfl
  have F1 : Fun K "is_deed" "is_deed" sIsDeed (He.ga K "is_deed") fd := He5.fun_of F
  exact ⟨fd, F1, F1.binds (ps := ["thing"]) fun _ _ _ _ _ _ us hl => match us, hl with | [_], _ => rfl⟩
theorem f_do_mount (c : He.SaysD fa fn K) : ∃ fd, Fun K "do_mount" "do_mount" sDoMount (He.ga K "do_mount") fd ∧ Binds K fd ["table", "space", "tree", "path"] [] := by
  obtain ⟨fd, F⟩ := c.def_ 7 (d := d_do_mount) rfl
  have F1 : Fun K "do_mount" "do_mount" sDoMount (He.ga K "do_mount") fd := He5.fun_of F
  exact ⟨fd, F1, F1.binds (ps := ["table", "space", "tree", "path"]) fun _ _ _ _ _ _ us hl => match us, hl with | [_, _, _, _], _ => rfl⟩
theorem f_make_deed (c : He.SaysD fa fn K) : ∃ fd, Fun K "make_deed" "make_deed" sMakeDeed (He.ga K "make_deed") fd ∧ Binds K fd ["table", "deed", "stood"] [] := by
  obtain ⟨fd, F⟩ := c.def_ 8 (d := d_make_deed) rfl
  have F1 : Fun K "make_deed" "make_deed" sMakeDeed (He.ga K "make_deed") fd := He5.fun_of F
  exact ⟨fd, F1, F1.binds (ps := ["table", "deed", "stood"]) fun _ _ _ _ _ _ us hl => match us, hl with | [_, _, _], _ => rfl⟩
theorem f_sure_deed (c : He.SaysD fa fn K) : ∃ fd, Fun K "sure_deed" "sure_deed" sSureDeed (He.ga K "sure_deed") fd ∧ Binds K fd ["thing"] [] := by
  obtain ⟨fd, F⟩ := c.def_ 9 (d := d_sure_deed) rfl
  have F1 : Fun K "sure_deed" "sure_deed" sSureDeed (He.ga K "sure_deed") fd := He5.fun_of F
  exact ⟨fd, F1, F1.binds (ps := ["thing"]) fun _ _ _ _ _ _ us hl => match us, hl with | [_], _ => rfl⟩
theorem f_are_trees (c : He.SaysD fa fn K) : ∃ fd, Fun K "are_trees" "are_trees" sAreTrees (He.ga K "are_trees") fd ∧ Binds K fd ["thing"] [] := by
  obtain ⟨fd, F⟩ := c.def_ 10 (d := d_are_trees) rfl
  have F1 : Fun K "are_trees" "are_trees" sAreTrees (He.ga K "are_trees") fd := He5.fun_of F
  exact ⟨fd, F1, F1.binds (ps := ["thing"]) fun _ _ _ _ _ _ us hl => match us, hl with | [_], _ => rfl⟩
theorem f__law_cell_at (c : He.SaysD fa fn K) : ∃ fd, Fun K "_law_cell_at" "_law_cell_at" sCell (He.ga K "_law_cell_at") fd ∧ Binds K fd ["_law_script", "_law_k"] [] := by
  obtain ⟨fd, F⟩ := c.def_ 11 (d := d__law_cell_at) rfl
  have F1 : Fun K "_law_cell_at" "_law_cell_at" sCell (He.ga K "_law_cell_at") fd := He5.fun_of F
  exact ⟨fd, F1, F1.binds (ps := ["_law_script", "_law_k"]) fun _ _ _ _ _ _ us hl => match us, hl with | [_, _], _ => rfl⟩
theorem f__law_digit (c : He.SaysD fa fn K) : ∃ fd, Fun K "_law_digit" "_law_digit" sDigit (He.ga K "_law_digit") fd ∧ Binds K fd ["_law_state", "_law_base"] [] := by
  obtain ⟨fd, F⟩ := c.def_ 12 (d := d__law_digit) rfl
  have F1 : Fun K "_law_digit" "_law_digit" sDigit (He.ga K "_law_digit") fd := He5.fun_of F
  exact ⟨fd, F1, F1.binds (ps := ["_law_state", "_law_base"]) fun _ _ _ _ _ _ us hl => match us, hl with | [_, _], _ => rfl⟩
theorem f__law_tree (c : He.SaysD fa fn K) : ∃ fd, Fun K "_law_tree" "_law_tree" sLTree (He.ga K "_law_tree") fd ∧ Binds K fd ["_law_state"] [] := by
  obtain ⟨fd, F⟩ := c.def_ 13 (d := d__law_tree) rfl
  have F1 : Fun K "_law_tree" "_law_tree" sLTree (He.ga K "_law_tree") fd := He5.fun_of F
  exact ⟨fd, F1, F1.binds (ps := ["_law_state"]) fun _ _ _ _ _ _ us hl => match us, hl with | [_], _ => rfl⟩
theorem f__law_named (c : He.SaysD fa fn K) : ∃ fd, Fun K "_law_named" "_law_named" sNamed (He.ga K "_law_named") fd ∧ Binds K fd ["_law_world", "_law_deed"] [] := by
  obtain ⟨fd, F⟩ := c.def_ 14 (d := d__law_named) rfl
  have F1 : Fun K "_law_named" "_law_named" sNamed (He.ga K "_law_named") fd := He5.fun_of F
  exact ⟨fd, F1, F1.binds (ps := ["_law_world", "_law_deed"]) fun _ _ _ _ _ _ us hl => match us, hl with | [_, _], _ => rfl⟩
theorem f__law_good (c : He.SaysD fa fn K) : ∃ fd, Fun K "_law_good" "_law_good" sGood (He.ga K "_law_good") fd ∧ Binds K fd ["_law_space", "_law_way"] [] := by
  obtain ⟨fd, F⟩ := c.def_ 15 (d := d__law_good) rfl
  have F1 : Fun K "_law_good" "_law_good" sGood (He.ga K "_law_good") fd := He5.fun_of F
  exact ⟨fd, F1, F1.binds (ps := ["_law_space", "_law_way"]) fun _ _ _ _ _ _ us hl => match us, hl with | [_, _], _ => rfl⟩
theorem f__law_bent (c : He.SaysD fa fn K) : ∃ fd, Fun K "_law_bent" "_law_bent" sBent (He.ga K "_law_bent") fd ∧ Binds K fd ["_law_state", "_law_deed"] [] := by
  obtain ⟨fd, F⟩ := c.def_ 16 (d := d__law_bent) rfl
  have F1 : Fun K "_law_bent" "_law_bent" sBent (He.ga K "_law_bent") fd := He5.fun_of F
  exact ⟨fd, F1, F1.binds (ps := ["_law_state", "_law_deed"]) fun _ _ _ _ _ _ us hl => match us, hl with | [_, _], _ => rfl⟩
theorem f_law (c : He.SaysD fa fn K) : ∃ fd, Fun K "law" "law" sLaw (He.ga K "law") fd ∧ Binds K fd ["_law_script"] [] := by
  obtain ⟨fd, F⟩ := c.def_ 17 (d := d_law) rfl
  have F1 : Fun K "law" "law" sLaw (He.ga K "law") fd := He5.fun_of F
  exact ⟨fd, F1, F1.binds (ps := ["_law_script"]) fun _ _ _ _ _ _ us hl => match us, hl with | [_], _ => rfl⟩
theorem f_Tree___init__ (c : He.SaysD fa fn K) : ∃ fd, Fun K "__init__" "Tree.__init__" sInit (He.ma K (He.ga K "Tree") "__init__") fd ∧ Binds K fd ["self", "top"] [] := by
  obtain ⟨fd, F⟩ := c.def_ 18 (d := d_Tree___init__) rfl
  have F1 : Fun K "__init__" "Tree.__init__" sInit (He.ma K (He.ga K "Tree") "__init__") fd := He5.fun_of F
  exact ⟨fd, F1, F1.binds (ps := ["self", "top"]) fun _ _ _ _ _ _ us hl => match us, hl with | [_, _], _ => rfl⟩
theorem f_Mount___init__ (c : He.SaysD fa fn K) : ∃ fd, Fun K "__init__" "Mount.__init__" sMtI (He.ma K (He.ga K "Mount") "__init__") fd ∧ Binds K fd ["self", "number", "space", "tree", "root"] [] := by
  obtain ⟨fd, F⟩ := c.def_ 19 (d := d_Mount___init__) rfl
  have F1 : Fun K "__init__" "Mount.__init__" sMtI (He.ma K (He.ga K "Mount") "__init__") fd := He5.fun_of F
  exact ⟨fd, F1, F1.binds (ps := ["self", "number", "space", "tree", "root"]) fun _ _ _ _ _ _ us hl => match us, hl with | [_, _, _, _, _], _ => rfl⟩
theorem f_Mount_copied (c : He.SaysD fa fn K) : ∃ fd, Fun K "copied" "Mount.copied" sMtC (He.ma K (He.ga K "Mount") "copied") fd ∧ Binds K fd ["self"] [] := by
  obtain ⟨fd, F⟩ := c.def_ 20 (d := d_Mount_copied) rfl
  have F1 : Fun K "copied" "Mount.copied" sMtC (He.ma K (He.ga K "Mount") "copied") fd := He5.fun_of F
  exact ⟨fd, F1, F1.binds (ps := ["self"]) fun _ _ _ _ _ _ us hl => match us, hl with | [_], _ => rfl⟩
theorem f_Mount_kind (c : He.SaysD fa fn K) : ∃ fd, Fun K "kind" "Mount.kind" sMtK (He.ma K (He.ga K "Mount") "kind") fd ∧ Binds K fd ["self", "masters"] [] := by
  obtain ⟨fd, F⟩ := c.def_ 21 (d := d_Mount_kind) rfl
  have F1 : Fun K "kind" "Mount.kind" sMtK (He.ma K (He.ga K "Mount") "kind") fd := He5.fun_of F
  exact ⟨fd, F1, F1.binds (ps := ["self", "masters"]) fun _ _ _ _ _ _ us hl => match us, hl with | [_, _], _ => rfl⟩
theorem f_Table___init__ (c : He.SaysD fa fn K) : ∃ fd, Fun K "__init__" "Table.__init__" sTbI (He.ma K (He.ga K "Table") "__init__") fd ∧ Binds K fd ["self", "trees", "most"] [] := by
  obtain ⟨fd, F⟩ := c.def_ 22 (d := d_Table___init__) rfl
  have F1 : Fun K "__init__" "Table.__init__" sTbI (He.ma K (He.ga K "Table") "__init__") fd := He5.fun_of F
  exact ⟨fd, F1, F1.binds (ps := ["self", "trees", "most"]) fun _ _ _ _ _ _ us hl => match us, hl with | [_, _, _], _ => rfl⟩
theorem f_Table_copied (c : He.SaysD fa fn K) : ∃ fd, Fun K "copied" "Table.copied" sTbC (He.ma K (He.ga K "Table") "copied") fd ∧ Binds K fd ["self"] [] := by
  obtain ⟨fd, F⟩ := c.def_ 23 (d := d_Table_copied) rfl
  have F1 : Fun K "copied" "Table.copied" sTbC (He.ma K (He.ga K "Table") "copied") fd := He5.fun_of F
  exact ⟨fd, F1, F1.binds (ps := ["self"]) fun _ _ _ _ _ _ us hl => match us, hl with | [_], _ => rfl⟩
theorem f_Table_next (c : He.SaysD fa fn K) : ∃ fd, Fun K "next" "Table.next" sNext (He.ma K (He.ga K "Table") "next") fd ∧ Binds K fd ["self", "what"] [] := by
  obtain ⟨fd, F⟩ := c.def_ 24 (d := d_Table_next) rfl
  have F1 : Fun K "next" "Table.next" sNext (He.ma K (He.ga K "Table") "next") fd := He5.fun_of F
  exact ⟨fd, F1, F1.binds (ps := ["self", "what"]) fun _ _ _ _ _ _ us hl => match us, hl with | [_, _], _ => rfl⟩
theorem f_Table_sure_space (c : He.SaysD fa fn K) : ∃ fd, Fun K "sure_space" "Table.sure_space" sSureS (He.ma K (He.ga K "Table") "sure_space") fd ∧ Binds K fd ["self", "space"] [] := by
  obtain ⟨fd, F⟩ := c.def_ 25 (d := d_Table_sure_space) rfl
  have F1 : Fun K "sure_space" "Table.sure_space" sSureS (He.ma K (He.ga K "Table") "sure_space") fd := He5.fun_of F
  exact ⟨fd, F1, F1.binds (ps := ["self", "space"]) fun _ _ _ _ _ _ us hl => match us, hl with | [_, _], _ => rfl⟩
theorem f_Table_new_mount (c : He.SaysD fa fn K) : ∃ fd, Fun K "new_mount" "Table.new_mount" sNewM (He.ma K (He.ga K "Table") "new_mount") fd ∧ Binds K fd ["self", "space", "tree", "root"] [] := by
  obtain ⟨fd, F⟩ := c.def_ 26 (d := d_Table_new_mount) rfl
  have F1 : Fun K "new_mount" "Table.new_mount" sNewM (He.ma K (He.ga K "Table") "new_mount") fd := He5.fun_of F
  exact ⟨fd, F1, F1.binds (ps := ["self", "space", "tree", "root"]) fun _ _ _ _ _ _ us hl => match us, hl with | [_, _, _, _], _ => rfl⟩
theorem f_Table_children (c : He.SaysD fa fn K) : ∃ fd, Fun K "children" "Table.children" sChild (He.ma K (He.ga K "Table") "children") fd ∧ Binds K fd ["self", "number"] [] := by
  obtain ⟨fd, F⟩ := c.def_ 27 (d := d_Table_children) rfl
  have F1 : Fun K "children" "Table.children" sChild (He.ma K (He.ga K "Table") "children") fd := He5.fun_of F
  exact ⟨fd, F1, F1.binds (ps := ["self", "number"]) fun _ _ _ _ _ _ us hl => match us, hl with | [_, _], _ => rfl⟩
theorem f_World___init__ (c : He.SaysD fa fn K) : ∃ fd ds, FunD K "__init__" "World.__init__" (defArgs sWoI) (defBody sWoI) (defScope sWoI) [.int 1000] [] (He.ma K (He.ga K "World") "__init__") fd ∧ Binds K fd ["self", "trees", "first", "most"] ds ∧ Vals [.int 1000] ds := by
  obtain ⟨fd, F⟩ := c.def_ 28 (d := d_World___init__) rfl
  have F1 : FunD K "__init__" "World.__init__" (defArgs sWoI) (defBody sWoI) (defScope sWoI) [.int 1000] [] (He.ma K (He.ga K "World") "__init__") fd := F
  obtain ⟨ds, v, b⟩ := F1.binds1 (ps := ["self", "trees", "first", "most"]) 3 0 (by simp) rfl fun _ _ _ _ _ _ _ us its h1 h2 => match us, its, h1, h2 with | [_, _, _], [_], _, _ => ⟨_, rfl, rfl⟩
  exact ⟨fd, ds, F1, b, v⟩
theorem f_World_do (c : He.SaysD fa fn K) : ∃ fd, Fun K "do" "World.do" sDo (He.ma K (He.ga K "World") "do") fd ∧ Binds K fd ["self", "deed"] [] := by
  obtain ⟨fd, F⟩ := c.def_ 29 (d := d_World_do) rfl
  have F1 : Fun K "do" "World.do" sDo (He.ma K (He.ga K "World") "do") fd := He5.fun_of F
  exact ⟨fd, F1, F1.binds (ps := ["self", "deed"]) fun _ _ _ _ _ _ us hl => match us, hl with | [_, _], _ => rfl⟩
theorem f_World_stood (c : He.SaysD fa fn K) : ∃ fd, Fun K "stood" "World.stood" sStood (He.ma K (He.ga K "World") "stood") fd ∧ Binds K fd ["self"] [] := by
  obtain ⟨fd, F⟩ := c.def_ 30 (d := d_World_stood) rfl
  have F1 : Fun K "stood" "World.stood" sStood (He.ma K (He.ga K "World") "stood") fd := He5.fun_of F
  exact ⟨fd, F1, F1.binds (ps := ["self"]) fun _ _ _ _ _ _ us hl => match us, hl with | [_], _ => rfl⟩
theorem f_World_past (c : He.SaysD fa fn K) : ∃ fd, Fun K "past" "World.past" sPast (He.ma K (He.ga K "World") "past") fd ∧ Binds K fd ["self"] [] := by
  obtain ⟨fd, F⟩ := c.def_ 31 (d := d_World_past) rfl
  have F1 : Fun K "past" "World.past" sPast (He.ma K (He.ga K "World") "past") fd := He5.fun_of F
  exact ⟨fd, F1, F1.binds (ps := ["self"]) fun _ _ _ _ _ _ us hl => match us, hl with | [_], _ => rfl⟩
theorem f_World_spaces (c : He.SaysD fa fn K) : ∃ fd, Fun K "spaces" "World.spaces" sSpaces (He.ma K (He.ga K "World") "spaces") fd ∧ Binds K fd ["self"] [] := by
  obtain ⟨fd, F⟩ := c.def_ 32 (d := d_World_spaces) rfl
  have F1 : Fun K "spaces" "World.spaces" sSpaces (He.ma K (He.ga K "World") "spaces") fd := He5.fun_of F
  exact ⟨fd, F1, F1.binds (ps := ["self"]) fun _ _ _ _ _ _ us hl => match us, hl with | [_], _ => rfl⟩
theorem f_World_shape (c : He.SaysD fa fn K) : ∃ fd, Fun K "shape" "World.shape" sShape (He.ma K (He.ga K "World") "shape") fd ∧ Binds K fd ["self"] [] := by
  obtain ⟨fd, F⟩ := c.def_ 33 (d := d_World_shape) rfl
  have F1 : Fun K "shape" "World.shape" sShape (He.ma K (He.ga K "World") "shape") fd := He5.fun_of F
  exact ⟨fd, F1, F1.binds (ps := ["self"]) fun _ _ _ _ _ _ us hl => match us, hl with | [_], _ => rfl⟩
theorem f_Labels___init__ (c : He.SaysD fa fn K) : ∃ fd, Fun K "__init__" "Labels.__init__" sLbI (He.ma K (He.ga K "Labels") "__init__") fd ∧ Binds K fd ["self", "table"] [] := by
  obtain ⟨fd, F⟩ := c.def_ 34 (d := d_Labels___init__) rfl
  have F1 : Fun K "__init__" "Labels.__init__" sLbI (He.ma K (He.ga K "Labels") "__init__") fd := He5.fun_of F
  exact ⟨fd, F1, F1.binds (ps := ["self", "table"]) fun _ _ _ _ _ _ us hl => match us, hl with | [_, _], _ => rfl⟩
theorem f_Labels_group_label (c : He.SaysD fa fn K) : ∃ fd, Fun K "group_label" "Labels.group_label" sLbG (He.ma K (He.ga K "Labels") "group_label") fd ∧ Binds K fd ["self", "group"] [] := by
  obtain ⟨fd, F⟩ := c.def_ 35 (d := d_Labels_group_label) rfl
  have F1 : Fun K "group_label" "Labels.group_label" sLbG (He.ma K (He.ga K "Labels") "group_label") fd := He5.fun_of F
  exact ⟨fd, F1, F1.binds (ps := ["self", "group"]) fun _ _ _ _ _ _ us hl => match us, hl with | [_, _], _ => rfl⟩
theorem f_Labels_label (c : He.SaysD fa fn K) : ∃ fd, Fun K "label" "Labels.label" sLbL (He.ma K (He.ga K "Labels") "label") fd ∧ Binds K fd ["self", "mount"] [] := by
  obtain ⟨fd, F⟩ := c.def_ 36 (d := d_Labels_label) rfl
  have F1 : Fun K "label" "Labels.label" sLbL (He.ma K (He.ga K "Labels") "label") fd := He5.fun_of F
  exact ⟨fd, F1, F1.binds (ps := ["self", "mount"]) fun _ _ _ _ _ _ us hl => match us, hl with | [_, _], _ => rfl⟩
theorem f_Labels_form (c : He.SaysD fa fn K) : ∃ fd, Fun K "form" "Labels.form" sLbF (He.ma K (He.ga K "Labels") "form") fd ∧ Binds K fd ["self", "mount"] [] := by
  obtain ⟨fd, F⟩ := c.def_ 37 (d := d_Labels_form) rfl
  have F1 : Fun K "form" "Labels.form" sLbF (He.ma K (He.ga K "Labels") "form") fd := He5.fun_of F
  exact ⟨fd, F1, F1.binds (ps := ["self", "mount"]) fun _ _ _ _ _ _ us hl => match us, hl with | [_, _], _ => rfl⟩
theorem f_Bi (X : K.In h) (G : h.Ns mainGlobals mg) (c : He.SaysD fa fn K) : Bi mg := ⟨(He.free_ok X G (c.fact 0 (f := .free "isinstance") rfl)), (He.free_ok X G (c.fact 1 (f := .free "int") rfl)), (He.free_ok X G (c.fact 2 (f := .free "bool") rfl)), (He.free_ok X G (c.fact 3 (f := .free "str") rfl)), (He.free_ok X G (c.fact 4 (f := .free "dict") rfl)), (He.free_ok X G (c.fact 5 (f := .free "tuple") rfl)), (He.free_ok X G (c.fact 6 (f := .free "range") rfl)), (He.free_ok X G (c.fact 7 (f := .free "len") rfl)), (He.free_ok X G (c.fact 8 (f := .free "all") rfl)), (He.free_ok X G (c.fact 9 (f := .free "any") rfl)), (He.free_ok X G (c.fact 10 (f := .free "sorted") rfl))⟩
theorem f_Co (X : K.In h) (G : h.Ns mainGlobals mg) (c : He.SaysD fa fn K) : Co mg := ⟨He.str_ok X G (c.fact 49 (f := .str "LETTERS" letters) rfl), He.int_ok X G (c.fact 50 (f := .int "MOST_NODES" 60) rfl), He.int_ok X G (c.fact 51 (f := .int "MOST_DEPTH" 8) rfl)⟩
theorem f_EcNoDeed (X : K.In h) (G : h.Ns mainGlobals mg) (c : He.SaysD fa fn K) : Ec K mg "NoDeed" (He.ga K "NoDeed") := by
  obtain ⟨h1, h2, h3, h4⟩ := He.exc_ok (c.fact 63 (f := .exc "NoDeed") rfl)
  exact ⟨(He.glo_ok X G (c.fact 39 (f := .glo "NoDeed") rfl)), h1, h2, h3, h4⟩
theorem f_EcNoSpace (X : K.In h) (G : h.Ns mainGlobals mg) (c : He.SaysD fa fn K) : Ec K mg "NoSpace" (He.ga K "NoSpace") := by
  obtain ⟨h1, h2, h3, h4⟩ := He.exc_ok (c.fact 64 (f := .exc "NoSpace") rfl)
  exact ⟨(He.glo_ok X G (c.fact 40 (f := .glo "NoSpace") rfl)), h1, h2, h3, h4⟩
theorem f_EcNoTree (X : K.In h) (G : h.Ns mainGlobals mg) (c : He.SaysD fa fn K) : Ec K mg "NoTree" (He.ga K "NoTree") := by
  obtain ⟨h1, h2, h3, h4⟩ := He.exc_ok (c.fact 65 (f := .exc "NoTree") rfl)
  exact ⟨(He.glo_ok X G (c.fact 41 (f := .glo "NoTree") rfl)), h1, h2, h3, h4⟩
theorem f_No (X : K.In h) (G : h.Ns mainGlobals mg) (c : He.SaysD fa fn K) : No K mg (He.ga K "NoTree") := ⟨(f_EcNoTree X G c).g, (f_EcNoTree X G c).x, (f_EcNoTree X G c).k, (f_EcNoTree X G c).b, (f_EcNoTree X G c).t, He.exm_ok (c.fact 69 (f := .exm "NoTree" "NoTree" true) rfl)⟩
theorem f_CnMount (c : He.SaysD fa fn K) : Cn K (He.ga K "Mount") mtN := ⟨He.cls_ok (c.fact 53 (f := .cls "Mount") rfl), fun f hf => He.noat_ok (c.facts (f := .noat "Mount" f) (by
  have m : He.Fa.noat "Mount" f ∈ mtN.map (fun f => He.Fa.noat "Mount" f) := List.mem_map_of_mem hf
  simp only [fa, fa6, List.mem_append]
  simp only [m, or_true, true_or]))⟩
theorem f_CnTable (c : He.SaysD fa fn K) : Cn K (He.ga K "Table") tbN := ⟨He.cls_ok (c.fact 54 (f := .cls "Table") rfl), fun f hf => He.noat_ok (c.facts (f := .noat "Table" f) (by
  have m : He.Fa.noat "Table" f ∈ tbN.map (fun f => He.Fa.noat "Table" f) := List.mem_map_of_mem hf
  simp only [fa, fa6, List.mem_append]
  simp only [m, or_true, true_or]))⟩
theorem f_CnWorld (c : He.SaysD fa fn K) : Cn K (He.ga K "World") woN := ⟨He.cls_ok (c.fact 55 (f := .cls "World") rfl), fun f hf => He.noat_ok (c.facts (f := .noat "World" f) (by
  have m : He.Fa.noat "World" f ∈ woN.map (fun f => He.Fa.noat "World" f) := List.mem_map_of_mem hf
  simp only [fa, fa6, List.mem_append]
  simp only [m, or_true, true_or]))⟩
theorem f_CnLabels (c : He.SaysD fa fn K) : Cn K (He.ga K "Labels") lbN := ⟨He.cls_ok (c.fact 56 (f := .cls "Labels") rfl), fun f hf => He.noat_ok (c.facts (f := .noat "Labels" f) (by
  have m : He.Fa.noat "Labels" f ∈ lbN.map (fun f => He.Fa.noat "Labels" f) := List.mem_map_of_mem hf
  simp only [fa, fa6, List.mem_append]
  simp only [m, or_true, true_or]))⟩
theorem f_Tr (X : K.In h) (G : h.Ns mainGlobals mg) (c : He.SaysD fa fn K) : Tr K mg (He.ga K "Tree") := ⟨He.cls_ok (c.fact 52 (f := .cls "Tree") rfl), He.noat_ok (c.fact 57 (f := .noat "Tree" "nodes") rfl), (He.glo_ok X G (c.fact 33 (f := .glo "Tree") rfl))⟩
theorem ex_all (e : exB K = true) : (∀ x ∈ errs, ExcC K (He.ga K x)) ∧ trB K (He.ga K "Tree") = true ∧ kitB3 K = true ∧ tupA K (He.ga K "KINDS") kindsL = true ∧ formB K = true ∧ He.ga K "Tree" ≠ He.ga K "World" := by
  obtain ⟨h1, h⟩ := He.ba e
  obtain ⟨h2, h⟩ := He.ba h
  obtain ⟨h3, h⟩ := He.ba h
  obtain ⟨h4, h⟩ := He.ba h
  obtain ⟨h5, h6⟩ := He.ba h
  refine ⟨fun x hx => excB_ok (List.all_eq_true.mp h1 x hx), h2, h3, h4, h5, fun z => ?_⟩
  rw [z] at h6
  simp at h6
theorem f_TrI (X : K.In h) (G : h.Ns mainGlobals mg) (c : He.SaysD fa fn K) (e : exB K = true) : TrI K mg (He.ga K "Tree") := by
  have h := (ex_all e).2.1
  simp only [trB, Bool.and_eq_true, decide_eq_true_eq] at h
  obtain ⟨h1, h2, h3, h4, h5⟩ := h
  exact ⟨(f_Tr X G c).cl, (f_Tr X G c).mgC, h1, h2, h3, h4, h5⟩
theorem kit_ok (e : exB K = true) {x y : Str} (hx : x ∈ errs) (hy : y ∈ errs) : PySem.W.kitOne K (.ref (He.ga K x)) (.ref (He.ga K y)) = some (x == y) :=
  of_decide_eq_true (List.all_eq_true.mp (List.all_eq_true.mp (ex_all e).2.2.1 x hx) y hy)
theorem m1 : ("NoDeed" : Str) ∈ errs := .head _
theorem m2 : ("NoSpace" : Str) ∈ errs := .tail _ (.head _)
theorem m3 : ("NoTree" : Str) ∈ errs := .tail _ (.tail _ (.head _))
theorem f_Kn (X : K.In h) (G : h.Ns mainGlobals mg) (c : He.SaysD fa fn K) (e : exB K = true) : Kn K mg := ⟨He.ga K "KINDS", (He.glo_ok X G (c.fact 42 (f := .glo "KINDS") rfl)), fun H => tupA_ok (ex_all e).2.2.2.1 H⟩
theorem f_Fm (X : K.In h) (G : h.Ns mainGlobals mg) (c : He.SaysT fa fn ts w K) (e : exB K = true) : Fm K w mg := by
  obtain ⟨es, n, D⟩ := c.tab 0 rfl
  obtain ⟨h1, h2⟩ := He.ba (ex_all e).2.2.2.2.1
  refine ⟨_, es, n, (He.glo_ok X G (c.d.fact 43 (f := .glo "FORMS") rfl)), D, fun p hp => ?_, fun z hz => of_decide_eq_true (List.all_eq_true.mp h2 z hz)⟩
  have h3 := List.all_eq_true.mp h1 p hp

  split at h3
  · rename_i t q
    exact ⟨t, q, fun H => tupA_ok h3 H⟩
  · cases h3
theorem f_E3 (X : K.In h) (G : h.Ns mainGlobals mg) (c : He.SaysD fa fn K) (e : exB K = true) : E3 K mg (He.ga K "MountError") (He.ga K "NoDeed") (He.ga K "NoSpace") (He.ga K "NoTree") := ⟨(He.glo_ok X G (c.fact 38 (f := .glo "MountError") rfl)), (He.glo_ok X G (c.fact 39 (f := .glo "NoDeed") rfl)), (He.glo_ok X G (c.fact 40 (f := .glo "NoSpace") rfl)), (He.glo_ok X G (c.fact 41 (f := .glo "NoTree") rfl)), (ex_all e).1 _ m1, (ex_all e).1 _ m2, (ex_all e).1 _ m3, He.exm_ok (c.fact 66 (f := .exm "NoDeed" "MountError" true) rfl), He.exm_ok (c.fact 67 (f := .exm "NoSpace" "MountError" true) rfl), He.exm_ok (c.fact 68 (f := .exm "NoTree" "MountError" true) rfl), (by have z := kit_ok e m1 m1; exact z.trans (congrArg some (by decide +kernel))), (by have z := kit_ok e m1 m2; exact z.trans (congrArg some (by decide +kernel))), (by have z := kit_ok e m1 m3; exact z.trans (congrArg some (by decide +kernel))), (by have z := kit_ok e m2 m1; exact z.trans (congrArg some (by decide +kernel))), (by have z := kit_ok e m2 m2; exact z.trans (congrArg some (by decide +kernel))), (by have z := kit_ok e m2 m3; exact z.trans (congrArg some (by decide +kernel))), (by have z := kit_ok e m3 m1; exact z.trans (congrArg some (by decide +kernel))), (by have z := kit_ok e m3 m2; exact z.trans (congrArg some (by decide +kernel))), (by have z := kit_ok e m3 m3; exact z.trans (congrArg some (by decide +kernel)))⟩
theorem f_Pl (X : K.In h) (G : h.Ns mainGlobals mg) (c : He.SaysD fa fn K) : Pl mg (He.ga K "do_mount") (He.ga K "do_bind") (He.ga K "do_bind_all") (He.ga K "do_move") (He.ga K "do_make") (He.ga K "do_make_all") := ⟨(He.glo_ok X G (c.fact 22 (f := .glo "do_mount") rfl)), (He.glo_ok X G (c.fact 44 (f := .glo "do_bind") rfl)), (He.glo_ok X G (c.fact 45 (f := .glo "do_bind_all") rfl)), (He.glo_ok X G (c.fact 46 (f := .glo "do_move") rfl)), (He.glo_ok X G (c.fact 47 (f := .glo "do_make") rfl)), (He.glo_ok X G (c.fact 48 (f := .glo "do_make_all") rfl))⟩
theorem facts {f : Addr} (X : K.In h) (G : h.Ns mainGlobals mg) (hfa : mg ("law" : Str) = some (.ref f)) (cc : Hk.Says fa fn ts exB w K) :
    ∃ fd : FuncData, (∀ (s : Shared) (v : Value), BindsTo s fd ⟨[v], []⟩ [("_law_script", v)]) ∧ ∀ base : Heap, K.In base → base.Ns mainGlobals mg → FnOk P w K mg base CX0 15 f fd ["_law_script"] (spLaw K) := by
  have c : He.SaysD fa fn K := cc.t.d
  have e := cc.more
  have B := f_Bi X G c
  have Cc := f_Co X G c
  have cM := f_CnMount c
  have cT := f_CnTable c
  have cW := f_CnWorld c
  have cL := f_CnLabels c
  obtain ⟨dis_whole, Fis_whole, bis_whole⟩ := f_is_whole c
  obtain ⟨dis_name, Fis_name, bis_name⟩ := f_is_name c
  obtain ⟨dis_path, Fis_path, bis_path⟩ := f_is_path c
  obtain ⟨dis_absolute, Fis_absolute, bis_absolute⟩ := f_is_absolute c
  obtain ⟨dnode_value, Fnode_value, bnode_value⟩ := f_node_value c
  obtain ⟨dis_entry, Fis_entry, bis_entry⟩ := f_is_entry c
  obtain ⟨dis_deed, Fis_deed, bis_deed⟩ := f_is_deed c
  obtain ⟨ddo_mount, Fdo_mount, bdo_mount⟩ := f_do_mount c
  obtain ⟨dmake_deed, Fmake_deed, bmake_deed⟩ := f_make_deed c
  obtain ⟨dsure_deed, Fsure_deed, bsure_deed⟩ := f_sure_deed c
  obtain ⟨dare_trees, Fare_trees, bare_trees⟩ := f_are_trees c
  obtain ⟨d_law_cell_at, F_law_cell_at, b_law_cell_at⟩ := f__law_cell_at c
  obtain ⟨d_law_digit, F_law_digit, b_law_digit⟩ := f__law_digit c
  obtain ⟨d_law_tree, F_law_tree, b_law_tree⟩ := f__law_tree c
  obtain ⟨d_law_named, F_law_named, b_law_named⟩ := f__law_named c
  obtain ⟨d_law_good, F_law_good, b_law_good⟩ := f__law_good c
  obtain ⟨d_law_bent, F_law_bent, b_law_bent⟩ := f__law_bent c
  obtain ⟨dlaw, Flaw, blaw⟩ := f_law c
  obtain ⟨dTree__init__, FTree__init__, bTree__init__⟩ := f_Tree___init__ c
  obtain ⟨dMount__init__, FMount__init__, bMount__init__⟩ := f_Mount___init__ c
  obtain ⟨dMountcopied, FMountcopied, bMountcopied⟩ := f_Mount_copied c
  have MMountcopied := He.meth_ok (c.fact 70 (f := .meth "Mount" "copied") rfl)
  obtain ⟨dMountkind, FMountkind, bMountkind⟩ := f_Mount_kind c
  have MMountkind := He.meth_ok (c.fact 71 (f := .meth "Mount" "kind") rfl)
  obtain ⟨dTable__init__, FTable__init__, bTable__init__⟩ := f_Table___init__ c
  obtain ⟨dTablecopied, FTablecopied, bTablecopied⟩ := f_Table_copied c
  have MTablecopied := He.meth_ok (c.fact 72 (f := .meth "Table" "copied") rfl)
  obtain ⟨dTablenext, FTablenext, bTablenext⟩ := f_Table_next c
  have MTablenext := He.meth_ok (c.fact 73 (f := .meth "Table" "next") rfl)
  obtain ⟨dTablesure_space, FTablesure_space, bTablesure_space⟩ := f_Table_sure_space c
  have MTablesure_space := He.meth_ok (c.fact 74 (f := .meth "Table" "sure_space") rfl)
  obtain ⟨dTablenew_mount, FTablenew_mount, bTablenew_mount⟩ := f_Table_new_mount c
  have MTablenew_mount := He.meth_ok (c.fact 75 (f := .meth "Table" "new_mount") rfl)
  obtain ⟨dTablechildren, FTablechildren, bTablechildren⟩ := f_Table_children c
  have MTablechildren := He.meth_ok (c.fact 76 (f := .meth "Table" "children") rfl)
  obtain ⟨dWI, ds, FWI, bWI, vWI⟩ := f_World___init__ c
  obtain ⟨dWorlddo, FWorlddo, bWorlddo⟩ := f_World_do c
  have MWorlddo := He.meth_ok (c.fact 77 (f := .meth "World" "do") rfl)
  obtain ⟨dWorldstood, FWorldstood, bWorldstood⟩ := f_World_stood c
  have MWorldstood := He.meth_ok (c.fact 78 (f := .meth "World" "stood") rfl)
  obtain ⟨dWorldpast, FWorldpast, bWorldpast⟩ := f_World_past c
  have MWorldpast := He.meth_ok (c.fact 79 (f := .meth "World" "past") rfl)
  obtain ⟨dWorldspaces, FWorldspaces, bWorldspaces⟩ := f_World_spaces c
  have MWorldspaces := He.meth_ok (c.fact 80 (f := .meth "World" "spaces") rfl)
  obtain ⟨dWorldshape, FWorldshape, bWorldshape⟩ := f_World_shape c
  have MWorldshape := He.meth_ok (c.fact 81 (f := .meth "World" "shape") rfl)
  obtain ⟨dLabels__init__, FLabels__init__, bLabels__init__⟩ := f_Labels___init__ c
  obtain ⟨dLabelsgroup_label, FLabelsgroup_label, bLabelsgroup_label⟩ := f_Labels_group_label c
  have MLabelsgroup_label := He.meth_ok (c.fact 82 (f := .meth "Labels" "group_label") rfl)
  obtain ⟨dLabelslabel, FLabelslabel, bLabelslabel⟩ := f_Labels_label c
  have MLabelslabel := He.meth_ok (c.fact 83 (f := .meth "Labels" "label") rfl)
  obtain ⟨dLabelsform, FLabelsform, bLabelsform⟩ := f_Labels_form c
  have MLabelsform := He.meth_ok (c.fact 84 (f := .meth "Labels" "form") rfl)
  have KTree := He.mkr_ok (c.fact 58 (f := .mkr "Tree") rfl)
  have KMount := He.mkr_ok (c.fact 59 (f := .mkr "Mount") rfl)
  have KTable := He.mkr_ok (c.fact 60 (f := .mkr "Table") rfl)
  have KWorld := He.mkr_ok (c.fact 61 (f := .mkr "World") rfl)
  have KLabels := He.mkr_ok (c.fact 62 (f := .mkr "Labels") rfl)
  have ef := hfa.symm.trans (He.glo_ok X G (c.fact 32 (f := .glo "law") rfl))
  cases ef
  have hfree_zip := (He.free_ok X G (c.fact 11 (f := .free "zip") rfl))
  have hlist := (He.free_ok X G (c.fact 12 (f := .free "list") rfl))
  have hmax := (He.free_ok X G (c.fact 13 (f := .free "max") rfl))
  have hmin := (He.free_ok X G (c.fact 14 (f := .free "min") rfl))
  obtain ⟨oc12, od12, kV12, dc12, pm12, an12, cd12, ct12, sl12, e12, _, _⟩ := id Flaw.ex
  subst e12
  refine ⟨PySem.W.fnOf "law" "law" (defArgs sLaw) (defBody sLaw) (defScope sLaw) .none kV12 dc12 pm12 an12 cd12 ct12, fun s v => .of_eq rfl, fun base _ _ => ?_⟩
  have cWh : Cm.Cl P w K mg base CX0 1 "is_whole" ["thing", "low", "high"] (spWhole K) := .of X G (He.eqO_ok (c.fact 15 (f := .glo "is_whole") rfl)) Fis_whole bis_whole (ok_whole Fis_whole B)
  have cNa : Cm.Cl P w K mg base CX0 1 "is_name" ["thing"] (spName K) := .of X G (He.eqO_ok (c.fact 16 (f := .glo "is_name") rfl)) Fis_name bis_name (ok_name Fis_name B Cc)
  have cPa : Cm.Cl P w K mg base CX0 2 "is_path" ["thing"] (spPath K) := .of X G (He.eqO_ok (c.fact 17 (f := .glo "is_path") rfl)) Fis_path bis_path (ok_path (k := 0) (fN := 0) (fdN := dis_name) Fis_path B cNa)
  have cAb : Cm.Cl P w K mg base CX0 1 "is_absolute" ["path"] spAbs := .of X G (He.eqO_ok (c.fact 18 (f := .glo "is_absolute") rfl)) Fis_absolute bis_absolute (ok_abs Fis_absolute)
  have cNo : Cm.Cl P w K mg base (L2.CX P w) 12 "node_value" ["thing", "depth", "met"] (spNode (He.ga K "NoTree") 9) := .of X G (He.eqO_ok (c.fact 19 (f := .glo "node_value") rfl)) Fnode_value bnode_value (ok_node Fnode_value (He.glo_ok X G (c.fact 19 (f := .glo "node_value") rfl)) bnode_value B Cc (f_No X G c) cWh cNa cPa 9)
  have cEn : Cm.Cl P w K mg base CX0 3 "is_entry" ["thing", "sort"] spEntry := .of X G (He.eqO_ok (c.fact 20 (f := .glo "is_entry") rfl)) Fis_entry bis_entry (ok_entry Fis_entry B (f_Kn X G c e) cPa cAb)
  have cDe : Cm.Cl P w K mg base CX0 4 "is_deed" ["thing"] spIsDeed := .of X G (He.eqO_ok (c.fact 21 (f := .glo "is_deed") rfl)) Fis_deed bis_deed (ok_isdeed Fis_deed B hfree_zip (f_Fm X G cc.t e) cEn)
  have cTs : Cm.Cl P w K mg base CX0 2 "are_trees" ["thing"] (spTrees (He.ga K "Tree")) := .of X G (He.eqO_ok (c.fact 25 (f := .glo "are_trees") rfl)) Fare_trees bare_trees (ok_trees Fare_trees B (f_TrI X G c e) cNa)
  have oMI : FnOk P w K mg base CX0 1 _ _ ["self", "number", "space", "tree", "root"] (spMtI (He.ga K "Mount")) := ok_mtI FMount__init__ cM
  have oTI : FnOk P w K mg base CX0 1 _ _ ["self", "trees", "most"] (spTbI (He.ga K "Table")) := ok_tbI FTable__init__ cT
  have oNx : FnOk P w K mg base CX0 1 _ _ ["self", "what"] (spNext (He.ga K "Table")) := ok_next FTablenext cT
  have oNM : FnOk P w K mg base CX0 3 _ _ ["self", "space", "tree", "root"] (spNewM (He.ga K "Table") (He.ga K "Mount")) := ok_newM FTablenew_mount cT cM MTablenext oNx bTablenext KMount (He.glo_ok X G (c.fact 34 (f := .glo "Mount") rfl)) oMI bMount__init__
  have hWoC : WoC P w K mg base (He.ga K "World") (He.ga K "Table") (He.ga K "Mount") (He.ga K "Tree") := ⟨cW, cT, cM, cTs, cNa, cWh, ⟨_, _, KTable, oTI, bTable__init__⟩, (He.glo_ok X G (c.fact 35 (f := .glo "Table") rfl)), ⟨_, _, MTablenew_mount, oNM, bTablenew_mount⟩, ⟨_, _, MTablenext, oNx, bTablenext⟩⟩
  have oWI := ok_woI FWI B hWoC
  have mK : Mt P w K mg base 1 (He.ga K "Mount") "kind" ["self", "masters"] (spMtK (He.ga K "Mount")) := ⟨_, _, MMountkind, ok_mtK FMountkind cM, bMountkind⟩
  have mCh : Mt P w K mg base 1 (He.ga K "Table") "children" ["self", "number"] (spChild (He.ga K "Table")) := ⟨_, _, MTablechildren, ok_child FTablechildren B cT, bTablechildren⟩
  have mG : Mt P w K mg base 1 (He.ga K "Labels") "group_label" ["self", "group"] spLbG := ⟨_, _, MLabelsgroup_label, ok_lbG FLabelsgroup_label, bLabelsgroup_label⟩
  have mL : Mt P w K mg base 2 (He.ga K "Labels") "label" ["self", "mount"] (spLbL (He.ga K "Labels") (He.ga K "Table") (He.ga K "Mount")) := ⟨_, _, MLabelslabel, ok_lbL FLabelslabel B cL cT cM mG mK, bLabelslabel⟩
  have mF : Mt P w K mg base 3 (He.ga K "Labels") "form" ["self", "mount"] (spLbF (He.ga K "Labels") (He.ga K "Table") (He.ga K "Mount")) := ⟨_, _, MLabelsform, ok_lbF FLabelsform B cL cT cM mL mCh, bLabelsform⟩
  have mSp : Mt P w K mg base 1 (He.ga K "World") "spaces" ["self"] (spSpaces (He.ga K "World") (He.ga K "Table") (He.ga K "Mount")) := ⟨_, _, MWorldspaces, ok_spaces FWorldspaces B cW cT, bWorldspaces⟩
  have oLI : FnOk P w K mg base CX0 1 _ _ ["self", "table"] (spLbI (He.ga K "Labels")) := ok_lbI FLabels__init__ cL
  have mSh : Mt P w K mg base 4 (He.ga K "World") "shape" ["self"] (spShape (He.ga K "World") (He.ga K "Table") (He.ga K "Mount")) := ⟨_, _, MWorldshape, ok_shape FWorldshape B cW cT cL (He.glo_ok X G (c.fact 37 (f := .glo "Labels") rfl)) ⟨_, _, KLabels, oLI, bLabels__init__⟩ mSp mF, bWorldshape⟩
  have mMC : Mt P w K mg base 3 (He.ga K "Mount") "copied" ["self"] (spMtC (He.ga K "Mount")) := ⟨_, _, MMountcopied, ok_mtC FMountcopied cM KMount (He.glo_ok X G (c.fact 34 (f := .glo "Mount") rfl)) oMI bMount__init__, bMountcopied⟩
  have mTC : Mt P w K mg base 4 (He.ga K "Table") "copied" ["self"] (spTbC (He.ga K "Table") (He.ga K "Mount")) := ⟨_, _, MTablecopied, ok_tbC FTablecopied B cT cM (He.glo_ok X G (c.fact 35 (f := .glo "Table") rfl)) ⟨_, _, KTable, oTI, bTable__init__⟩ mMC, bTablecopied⟩
  have cSu : Cm.Cl P w K mg base (L2.CX P w) 5 "sure_deed" ["thing"] (spSure (He.ga K "NoDeed")) := .of X G (He.eqO_ok (c.fact 24 (f := .glo "sure_deed") rfl)) Fsure_deed bsure_deed (ok_sure Fsure_deed (f_EcNoDeed X G c) cDe)
  have oSS : FnOk P w K mg base (L2.CX P w) 1 _ _ ["self", "space"] (spSureS (He.ga K "Table") (He.ga K "Mount") (He.ga K "NoSpace")) := ok_sureS FTablesure_space B cT (f_EcNoSpace X G c)
  have oDM : FnOk P w K mg base (L2.CX P w) 2 _ _ ["table", "space", "tree", "path"] (spDM (He.ga K "Table") (He.ga K "Mount") (He.ga K "NoTree")) := ok_DM Fdo_mount B cT (f_EcNoTree X G c) cNa
  have cMD : Cm.Cl P w K mg base (L2.CX P w) 3 "make_deed" ["table", "deed", "stood"] (spMD (He.ga K "Table") (He.ga K "Mount") (He.ga K "NoSpace") (He.ga K "NoTree")) := .of X G (He.eqO_ok (c.fact 23 (f := .glo "make_deed") rfl)) Fmake_deed bmake_deed (ok_MD Fmake_deed B cT MTablesure_space oSS bTablesure_space (f_Pl X G c) oDM Fdo_mount.kp bdo_mount)
  have mSt : Mt P w K mg base 1 (He.ga K "World") "stood" ["self"] (spStood (He.ga K "World") (He.ga K "Table") (He.ga K "Mount")) := ⟨_, _, MWorldstood, ok_stood FWorldstood cW, bWorldstood⟩
  have mPs : Mt P w K mg base 1 (He.ga K "World") "past" ["self"] (spPast (He.ga K "World") (He.ga K "Table") (He.ga K "Mount")) := ⟨_, _, MWorldpast, ok_past FWorldpast hlist cW, bWorldpast⟩
  have oDo : FnOk P w K mg base (L2.CX P w) 6 _ _ ["self", "deed"] (spDo (He.ga K "World") (He.ga K "Table") (He.ga K "Mount") (He.ga K "NoDeed") (He.ga K "NoSpace") (He.ga K "NoTree")) := ok_do FWorlddo cW cT cSu mTC cMD mSt
  have cDg : Cm.Cl P w K mg base CX0 1 "_law_digit" ["_law_state", "_law_base"] spDigit := .of X G (He.eqO_ok (c.fact 27 (f := .glo "_law_digit") rfl)) F_law_digit b_law_digit (ok_digit F_law_digit B)
  have cCe : Cm.Cl P w K mg base CX0 1 "_law_cell_at" ["_law_script", "_law_k"] (Tx.spCell K) := .of X G (He.eqO_ok (c.fact 26 (f := .glo "_law_cell_at") rfl)) F_law_cell_at b_law_cell_at (ok_cell F_law_cell_at B)
  have cLt : Cm.Cl P w K mg base CX0 2 "_law_tree" ["_law_state"] spLT := .of X G (He.eqO_ok (c.fact 28 (f := .glo "_law_tree") rfl)) F_law_tree b_law_tree (ok_lt F_law_tree cDg)
  have cNm : Cm.Cl P w K mg base CX0 7 "_law_named" ["_law_world", "_law_deed"] (spNam (He.ga K "World") (He.ga K "Table") (He.ga K "Mount")) := .of X G (He.eqO_ok (c.fact 29 (f := .glo "_law_named") rfl)) F_law_named b_law_named (ok_nam F_law_named B cW (f_E3 X G c e) MWorlddo oDo bWorlddo)
  have cGo : Cm.Cl P w K mg base CX0 1 "_law_good" ["_law_space", "_law_way"] spGood := .of X G (He.eqO_ok (c.fact 30 (f := .glo "_law_good") rfl)) F_law_good b_law_good (ok_good F_law_good B)
  have cBe : Cm.Cl P w K mg base CX0 3 "_law_bent" ["_law_state", "_law_deed"] spBent := .of X G (He.eqO_ok (c.fact 31 (f := .glo "_law_bent") rfl)) F_law_bent b_law_bent (ok_bent F_law_bent B hlist cDg)
  have D : Lw P w K mg base (He.ga K "World") (He.ga K "Table") (He.ga K "Mount") (He.ga K "Tree") (He.ga K "NoTree") := ⟨cCe, cDg, cLt, cGo, cBe, cNm, ⟨_, _, KTree, ok_init FTree__init__ B (f_Tr X G c) (f_No X G c) cNo, bTree__init__⟩, (He.glo_ok X G (c.fact 33 (f := .glo "Tree") rfl)), ⟨_, _, ds, KWorld, oWI, bWI, vWI⟩, (He.glo_ok X G (c.fact 36 (f := .glo "World") rfl)), cW, mSh, mPs, (ex_all e).2.2.2.2.2⟩
  exact ok_law Flaw B hmax hmin D
end
end Hx
set_option Elab.async false
set_option linter.all false
set_option maxRecDepth 100000
set_option maxHeartbeats 0
namespace Hx
open PySem PySem.Spec PyProof.Rows L2 Tx
theorem runT (w : World) : HandSHeadRun.RunEq R (PySem.W.view R.prog [84]) hk ob 60000 loose (w.withFollow "special-get-raises" true) := by
  intro os
  kernel_rfl
theorem run (w : World) : HandSHeadRun.RunEq R (PySem.W.view R.prog [84]) hk ob 60000 loose w :=
  PySem.W.byRow2 "special-get-raises" (P := fun w => HandSHeadRun.RunEq R (PySem.W.view R.prog [84]) hk ob 60000 loose w) runF runT w
end Hx
open PySem PySem.W PySem.Calls PyProof.Rows
set_option maxRecDepth 100000 in
set_option maxHeartbeats 0 in
theorem PySem.Challenge.cw_spreadmounts_k14_what_is_no_deed_holds : PySem.Challenge.rw_spreadmounts_k14_what_is_no_deed.Holds := by
  w_on; o_law
  refine HandSHeadRun.head_any (r := OpenLaw.row PySem.Challenge.rw_spreadmounts_k14_what_is_no_deed) (q := view (OpenLaw.row PySem.Challenge.rw_spreadmounts_k14_what_is_no_deed).prog [84]) (H := Hx.hk) (ob := Hx.ob) (M := 60000) (loose := Hx.loose) (d := HandSHeadRun.topDef (OpenLaw.row PySem.Challenge.rw_spreadmounts_k14_what_is_no_deed).prog 84) (kwd := []) Hx.ob_eq
    (by kernel_rfl) (fun s => by kernel_rfl) Hx.run (by kernel_rfl) (by kernel_rfl) (by kernel_rfl) (by rfl) (by first | assumption | decide +kernel) (by decide +kernel) ⟨rfl, rfl, rfl, rfl, rfl, by decide +kernel⟩ ?hw ?hc
  case hw => w_witness2
  case hc =>
    refine L2.walk_ofE (l := PySem.Challenge.rw_spreadmounts_k14_what_is_no_deed) (n := 63) (k := 15) (x := "_law_script") (CX := L2.CX0) rfl (by decide) (by kernel_rfl) ⟨rfl, by decide, by decide⟩ ?F (fun _ _ _ _ z => z)
    intro w mg fa h Y G hmg0
    obtain ⟨K, KX, c⟩ := Y
    have hmg : mg ("law" : PySem.Str) = some (.ref fa) := by
      have e : (HandSHeadRun.topDef (OpenLaw.row PySem.Challenge.rw_spreadmounts_k14_what_is_no_deed).prog 84).name = ("law" : PySem.Str) := by kernel_rfl
      rw [← e]
      exact hmg0
    obtain ⟨fd, hb, hF⟩ := Hx.facts (P := (PySem.Challenge.rw_spreadmounts_k14_what_is_no_deed).prog) (w := w) KX G hmg c
    exact ⟨K, fd, Tx.spLaw K, KX, hb, fun H a ns hl _ hS => ⟨a, ns, rfl, hS, hl, fun _ => rfl⟩, hF⟩
