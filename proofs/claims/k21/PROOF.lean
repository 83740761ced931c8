import PyProof.Rows.All
import Wide.All
import OpenK.AllK
import Wide.FinOn
import HandS.ForMost
import HandS.Exc
import HandS.TryOnly
import HandS.TryMany
import HandS.ExcOwn
import HandS.WordsExc
import HandS.IsInst
import HandS.Wide
import HandS.Codes
import HandS.Evl
import HandS.Walk
import HandS.EndBits
import HandS.StrMore
import HandS.ExcIs
import HandS.ExcValue
import HandS.ExcInit
import HandS.ExcField
import KE.KExcIs
import HandS.HotCalls
import HandS.MakeKwOnly
import HandS.Defaults
import HandS.RaiseMore
import HandS.Style
import PySem.Challenge.RW_spreadmounts_k21_errors_by_themselves
set_option Elab.async false
set_option linter.all false
set_option maxRecDepth 100000
set_option maxHeartbeats 4000000
namespace Cm
open PySem PySem.Spec PyProof.Rows L2
/-- all but l is as it was -/
def But (l : Addr) (H H' : Hp) : Prop := ∀ b o, b ≠ l → H b = some o → H' b = some o
theorem But.refl (l : Addr) (H : Hp) : But l H H := fun _ _ _ h => h
theorem But.trans {l : Addr} {H H1 H2 : Hp} (a : But l H H1) (b : But l H1 H2) : But l H H2 := fun c o n h => b c o n (a c o n h)
theorem But.upd {l : Addr} {H : Hp} {o : HO} : But l H (upd H l o) := fun b u n h => by rw [upd_ne n]; exact h
theorem But.new {l p : Addr} {H : Hp} {o : HO} (h : H p = none) : But l H (L2.upd H p o) := fun b u n e => by rw [upd_ne (ne_of_none e h)]; exact e
theorem mod_nat {x b : Int} (h : 0 < b) : ∃ d : Nat, (d : Int) < b ∧ x % b = (d : Int) := by
  have h1 := Int.emod_nonneg x (show b ≠ 0 by omega)
  have h2 := Int.emod_lt_of_pos x h
  exact ⟨(x % b).toNat, by omega, by omega⟩
theorem same_new {H : Hp} {p : Addr} {o : HO} (h : H p = none) : Same H (upd H p o) := fun b x e => by
  rw [upd_ne (ne_of_none e h)]
  exact e
theorem same_mut {H H' : Hp} {p : Addr} {o : HO} (h : H p = none) (s : Same H H') : Same H (upd H' p o) := fun b x e => by
  rw [upd_ne (ne_of_none e h)]
  exact s b x e
theorem Same.but {H H' : Hp} (l : Addr) (s : Same H H') : But l H H' := fun b o _ h => s b o h
/-! ### statements by what holds ahead and behind -/
def Ho (X : Cx) (st : Stmt) (p q : L2.St → Hp → Prop) : Prop := ∃ t, PS X st t ∧ ∀ (D : Ends) σ H, p σ H → (∀ σ' H', q σ' H' → D.nx σ' H') → t D σ H
def HoR (X : Cx) (sts : List Stmt) (p : L2.St → Hp → Prop) (r : VK) : Prop := ∃ t, PSs X sts t ∧ ∀ (D : Ends) σ H, p σ H → (∀ v H', r v H' → D.rt v H') → t D σ H
theorem HoR.cons {X : Cx} {st : Stmt} {rest : List Stmt} {p q : L2.St → Hp → Prop} {r : VK} (a : Ho X st p q) (b : HoR X rest q r) : HoR X (st :: rest) p r := by
  obtain ⟨t, ht, h1⟩ := a
  obtain ⟨u, hu, h2⟩ := b
  exact ⟨_, pss_cons ht hu, fun D σ H hp hr => h1 _ σ H hp fun σ' H' hq => h2 D σ' H' hq hr⟩
/-- a def, called by its name -/
structure Cl (P : Program) (w : World) (K : PySem.W.Frag) (mg : Str → Option Value) (base : Heap) (CX : CXT) (k : Nat) (x : Str) (ps : List Str) (sp : Sp) : Prop where
  ex : ∃ f fd, FnOk P w K mg base CX k f fd ps sp ∧ mg x = some (.ref f) ∧ PySem.W.keepIn K (.ref f) = true ∧ Binds K fd ps []
section
variable {X : Cx} {CX : CXT} {k j : Nat} {x : Str} {ps : List Str} {sp : Sp} {e : Expr} {es : List Expr} {t : TA} {p pos : Pos} {E : XK}
theorem pe_cl (c : Cl X.prog X.w X.K X.mg X.base CX k x ps sp) (hr : Room j X.A) (hk : k ≤ j) (hg : Gl X x) (hx : Passes CX X E) (ha : PA X (e :: es) t)
    (hdb : (x == ("__debug__" : Str)) = false := by decide) (he : starEach (e :: es) X.env = (false, eval e X.env) :: starEach es X.env := by rfl) (hpl : (backTo pos (starEach es X.env)).any (·.1) = false := by rfl) :
    PE X (.Call (.Name x p) (e :: es) [] pos) (tCall sp [] E t) := by
  obtain ⟨f, fd, F, hm, kp, b⟩ := c.ex
  exact pe_call F (hr.mono hk) hg hm kp b .nil hx ha hdb he hpl
theorem pe_cl0 (c : Cl X.prog X.w X.K X.mg X.base CX k x ps sp) (hr : Room j X.A) (hk : k ≤ j) (hg : Gl X x) (hx : Passes CX X E)
    (hdb : (x == ("__debug__" : Str)) = false := by decide) : PE X (.Call (.Name x p) [] [] pos) (tCall sp [] E tNil) := by
  obtain ⟨f, fd, F, hm, kp, b⟩ := c.ex
  exact pe_call0 F (hr.mono hk) hg hm kp b .nil hx hdb
end
/-- xs + ys, lists that are read -/
def rCatS (K : PySem.W.Frag) : R2 := fun x y H Q => ∃ l b xs zs, x = .ref l ∧ y = .ref b ∧ SqL K H l xs ∧ SqL K H b zs ∧ xs.length + zs.length ≤ sizeLine ∧ ∀ p, H p = none → Q (.ref p) (upd H p (.lst (xs ++ zs)))
theorem op_catS {X : Cx} : OpR X (binaryOp .Add) (rCatS X.K) := by
  intro pins s σ H x y v u Q I rx ry h
  obtain ⟨l, b, xs, zs, rfl, rfl, hl, hb, hz, q⟩ := h
  cases rx
  cases ry
  obtain ⟨its, r, ⟨⟨c1, d1, t1, sl1⟩, n1, e1, k1, m1, f1⟩, z1⟩ := I.list hl
  obtain ⟨its2, r2, ⟨⟨c2, d2, t2, sl2⟩, n2, e2, k2, m2, f2⟩, z2⟩ := I.list hb
  dsimp only at k1 m1 f1 k2 m2 f2
  subst k1 m1 f1 k2 m2 f2
  have hl1 := r.length
  have hl2 := r2.length
  refine concat_meets ⟨_, e1, rfl⟩ ⟨_, e2, rfl⟩ noFill_list_add seq_list_add PySem.F.slot_list_add PySem.F.entry_list_add (PySem.F.args_list_add_2 _ _) (list_addW l b its.toArray its2.toArray n1 n2 none none sl1 sl2 (by rw [List.size_toArray, List.size_toArray, ← hl1, ← hl2]; exact hz)) ⟨e1, e2, ?_⟩
  have ea : its.toArray ++ its2.toArray = (its ++ its2).toArray := by simp
  rw [ea]
  exact ⟨.ref _, _, I.lnew (t' := s.toks) (r.append r2) (by rw [List.length_append]; exact hz), rfl, q _ I.fresh⟩
/-- a def of the top -/
structure FnFact (K : PySem.W.Frag) (x : Str) (st : Stmt) : Prop where
  ex : ∃ f fd, PySem.W.nsIn K mainGlobals x = some (some (.ref f)) ∧ Fun K x x st f fd
theorem FnFact.of {K : PySem.W.Frag} {x : Str} {st : Stmt} {f : Addr} {oc : Value} {od an : Option Addr} {sl : Array (Option Value)} {kV dc pm cd ct : Value} (a : PySem.W.nsIn K mainGlobals x = some (some (.ref f)))
    (l : K.lookup f = some ⟨oc, od, .func (PySem.W.fnOf x x (defArgs st) (defBody st) (defScope st) .none kV dc pm an cd ct), sl⟩) (c : PySem.W.codeIn K cd x = true) (k : PySem.W.keepIn K (.ref f) = true) : FnFact K x st :=
  ⟨f, _, a, fun_mk l c k⟩
theorem Cl.of {P : Program} {w : World} {K : PySem.W.Frag} {mg : Str → Option Value} {base : Heap} {CX : CXT} {k : Nat} {x : Str} {st : Stmt} {f : Addr} {fd : FuncData} {ps : List Str} {sp : Sp} {h : Heap} (X : K.In h) (G : h.Ns mainGlobals mg) (a : PySem.W.nsIn K mainGlobals x = some (some (.ref f)))
    (F : Fun K x x st f fd) (b : Binds K fd ps []) (o : FnOk P w K mg base CX k f fd ps sp) : Cl P w K mg base CX k x ps sp := ⟨f, fd, o, PySem.W.mg_of X G a, F.kp, b⟩
/-- the state of the draws -/
def StOk (st : List V) : Prop := (∃ c, st = [.int c]) ∨ ∃ a b c, st = [.int a, .int b, .int c]
/-- _law_digit -/
def spDigit : Sp := fun vs H Q _ => ∃ l st base, vs = [.ref l, .int base] ∧ H l = some (.lst st) ∧ StOk st ∧ 0 < base ∧ base < 1073741824 ∧
  ∀ (d : Nat) st' H', (d : Int) < base → StOk st' → H' l = some (.lst st') → But l H H' → Q (.int d) H'
/-- the state's list, all else as at the entry -/
structure Bs (H : Hp) (l : Addr) (H' : Hp) : Prop where
  st : ∃ st, H' l = some (.lst st) ∧ StOk st
  but : But l H H'
theorem Bs.same {H H1 H2 : Hp} {l : Addr} (b : Bs H l H1) (s : Same H1 H2) : Bs H l H2 := ⟨let ⟨st, h, o⟩ := b.st; ⟨st, s _ _ h, o⟩, b.but.trans (Same.but l s)⟩
theorem Bs.trans {H H1 H2 : Hp} {l : Addr} (a : Bs H l H1) (b : Bs H1 l H2) : Bs H l H2 := ⟨b.st, a.but.trans b.but⟩
end Cm
set_option Elab.async false
set_option linter.all false
set_option maxRecDepth 100000
set_option maxHeartbeats 4000000
/-! Own exceptions held as values: made without an argument, asked by isinstance. -/
namespace ErV
open PySem PySem.Spec PyProof.Rows L2
section
variable {X : Cx}
/-- isinstance(e, c), e an own exception held as a value -/
def rIsX (K : PySem.W.Frag) : List V → Hp → VK → Prop := fun xs H Q => ∃ (a D : Addr) (c : V) (cv : Value) (b : Bool), xs = [.ref a, c] ∧ H a = some (ExO (.ref D) a) ∧ ExcC K D ∧ (∀ u, RelV c u → u = cv) ∧ PySem.W.kitOne K (.ref D) cv = some b ∧ Q (.bl b) H
theorem call_isX : CallR X (.builtin "isinstance") (rIsX X.K) := by
  intro pins s σ H xs us Q I r h
  obtain ⟨a, D, c, cv, b, rfl, ha, C, hcv, e, q⟩ := h
  obtain ⟨u1, u2, rfl, r1, r2⟩ := vals2 r
  cases (show u1 = Value.ref a from r1)
  have ec := hcv _ r2
  subst ec
  obtain ⟨⟨oe, vs, ho, hz, hd, _⟩, _, _⟩ := I.hok a _ ha
  have J : PySem.W.InstAt s.heap a oe D none := by
    obtain ⟨oc, od, oda, osl⟩ := oe
    obtain ⟨h1, h2⟩ := hz
    dsimp only at h1 h2 hd
    subst h1 h2 hd
    exact ⟨ho, rfl, rfl, trivial⟩
  exact PySem.W.kia_one (PySem.W.handS_kitx_exc C.hg C.hk C.hs C.hd C.ha C.hn C.ht C.hm) I.kIn J e (fun z => nomatch z) fun tk => ⟨.bl b, H, I.tok tk, rfl, q⟩
/-- X(), an own exception class without own __init__, as a value -/
theorem pe_exc0 {C : Addr} {bmB : List Value} {B newId initId : String} {x : Str} {p pos : Pos} (F : ExcBaseFacts B newId initId bmB) (q : PySem.W.excIn X.K C bmB newId = true) (gC : X.mg x = some (.ref C)) (kC : PySem.W.keepIn X.K (.ref C) = true) (hg : Gl X x) (hdb : (x == ("__debug__" : Str)) = false := by decide) :
    PE X (.Call (.Name x p) [] [] pos) (fun σ H Q => ∀ a, H a = none → Q (.ref a) (upd H a (ExO (.ref C) a))) := by
  constructor
  intro pins s σ H Q I h
  apply wpAny_Call_Name_kw
  apply ld_glob I hg gC _ hdb
  refine PySem.W.callWith_K0 I.kIn kC ?_
  obtain ⟨bm, N, nm, qn, bs, hdct, sn, sub, ab, col, dd, k0, k1, k2, k3, k5, mN, hC, hN, hni, T⟩ := exc_obj I.kIn q
  refine wpAny_call_exc_subT F T hC hN hni (fun h' a hm => ?_) (by show 0 ≤ sizeLine; exact Nat.zero_le _)
  have hn : H a = none := I.hok.gone hm.new
  obtain ⟨t, ht, _, _⟩ := hm.there
  exact ⟨.ref a, upd H a (ExO (.ref C) a), I.laidN hm.keeps hm.new hn (exO_ok ht ⟨rfl, rfl⟩ rfl rfl rfl (show 4 < 6 by decide)), rfl, h a hn⟩
end
end ErV
set_option Elab.async false
set_option linter.all false
set_option maxRecDepth 100000
set_option maxHeartbeats 4000000
/-! Own exceptions whose __init__ says Base.__init__(self, text): the base's call, and the making of one as a value. -/
namespace ErV
open PySem PySem.Spec PyProof.Rows L2
section
variable {X : Cx} {e : Expr} {es : List Expr} {ta : TA} {p p1 p2 pos : Pos}
/-- Base.__init__(self, ..), Base a class of the text over ValueError -/
theorem pe_cinit {pl : Sem Bool} {cn : Str} {CM : Addr} (hg : Gl X cn) (hm : X.mg cn = some (.ref CM)) (sg : PySem.W.specialIn X.K (.ref CM) "__getattribute__" = some (some (.builtin "type.__getattribute__"))) (rd : PySem.W.readsIn X.K CM (.type "type") = true)
    (vV : PySem.W.findCls X.K (.ref CM) (.type "type") "__init__" = some (.val (.builtin "ValueError.__init__"))) (ha : PA X (e :: es) ta) (hdb : (cn == ("__debug__" : Str)) = false := by decide)
    (hc : eval (.Call (.Attribute (.Name cn p1) "__init__" p2) (e :: es) [] pos) X.env = (do
      let ov ← eval (.Name cn p1) X.env
      standAt p2.atName
      let (f, first) ← holding [ov] (getMethod ov "__init__" pl)
      callWith pos f first (backTo pos (starEach (e :: es) X.env)) (backToKw pos (keywordEach [] X.env))) := by rfl)
    (he : starEach (e :: es) X.env = (false, eval e X.env) :: starEach es X.env := by rfl) (hpl : (backTo pos (starEach es X.env)).any (·.1) = false := by rfl) :
    PE X (.Call (.Attribute (.Name cn p1) "__init__" p2) (e :: es) [] pos) (tVeI X.K ta) := by
  constructor
  intro pins s σ H Q I h
  refine PySem.W.methodCall_KW (ld_glob I hg hm ?_ hdb) hc
  refine PySem.W.method_cls I.kIn sg (PySem.W.cls_value I.kIn rd vV (by decide +kernel) ?_)
  show wpAny _ _ (callWith pos (Value.builtin "ValueError.__init__") [] (backTo pos (starEach (e :: es) X.env)) []) _ _ _
  refine PyProof.Rows.callWith_method1 (thn (ha.run pos pins _ σ H _ (I.tok _) h) ?_) he hpl
  rintro us s1 ⟨vs, H1, I1, r1, a, C, ws, ev, hl, T, ea, q⟩
  subst ev
  match us, r1 with
  | u0 :: ur, .cons ra rw' =>
    cases (show u0 = Value.ref a from ra)
    refine oinit_ok T I1 ea ?_ fun s' J => ⟨.non, H1, J, rfl, q⟩
    rw [← Paired.length rw', sizeLine_eq]
    omega
/-- C(e, ..) as a value, C with an __init__ of the text -/
def tOex (C : Addr) (sp : Sp) (dvs : List V) (ta : TA) : TE := fun σ H Q => ta σ H fun vs H1 => vs.length ≤ 1000 ∧ ∀ a, H1 a = none → sp (.ref a :: (vs ++ dvs)) (upd H1 a (exo a C none)) (fun v H2 => v = .non ∧ Q (.ref a) H2) (fun _ _ _ => False)
theorem run_oex {CX : CXT} {C fI : Addr} {k : Nat} {fd : FuncData} {ps : List Str} {sp : Sp} {ds : List Value} {dvs : List V} (T : OexC X.K C) (iC : PySem.W.findIn X.K (.ref C) "__init__" = some (some (.ref fI))) (tI : PySem.W.typeIn X.K (.ref fI) = some (.type "function"))
    (F1 : FnOk X.prog X.w X.K X.mg X.base CX k fI fd ps sp) (hr : Room (k + 1) X.A) (hb : Binds X.K fd ps ds) (hd : Vals dvs ds) (hx : Passes CX X (fun _ _ _ => False)) {pins : List (Addr × Obj)} {σ : L2.St} {H1 : Hp} {s1 : Shared} {us : List Value} {vs : List V} {Q : VK}
    (I1 : Inv X pins σ H1 s1) (r1 : Vals vs us) (hz : vs.length ≤ 1000) (q1 : ∀ a, H1 a = none → sp (.ref a :: (vs ++ dvs)) (upd H1 a (exo a C none)) (fun v H2 => v = .non ∧ Q (.ref a) H2) (fun _ _ _ => False)) :
    wpAny (model X.prog X.w) X.A (call (.ref C) us) (EP X pins σ Q) X.xe s1 := by
  obtain ⟨nm, q, N, bs, bm, sn, sub, ab, col, dd, k0, k1, k2, k3, k5, hC, hbm⟩ := T.cls
  obtain ⟨hp, g, dr, tk, os⟩ := s1
  have hn : H1 (hp.objs.size + 1) = none := I1.hok.fresh (Nat.le_succ _)
  have hq := q1 (hp.objs.size + 1) hn
  have hget : ((hp.push (PySem.W.kdv_tup us)).push (PySem.HandSPX.excO C hp.objs.size)).get? (hp.objs.size + 1) = some (PySem.HandSPX.excO C hp.objs.size) := by heap_get
  have J : Inv X pins σ (upd H1 (hp.objs.size + 1) (exo (hp.objs.size + 1) C none)) ⟨(hp.push (PySem.W.kdv_tup us)).push (PySem.HandSPX.excO C hp.objs.size), g, dr, tk, os⟩ :=
    I1.laid (t' := tk) (fun b o z => Heap.get?_push_of_some _ (Heap.get?_push_of_some _ z)) (Nat.le_succ _) (exo_ok hget)
  have rs : Vals (V.ref (hp.objs.size + 1) :: (vs ++ dvs)) (Value.ref (hp.objs.size + 1) :: (us ++ ds)) := .cons rfl (r1.append hd)
  have hl : (Value.ref (hp.objs.size + 1) :: us ++ ds).length = ps.length := rs.length.symm.trans (F1.len _ _ _ _ hq)
  have hus : us.length ≤ sizeLine := by
    rw [← Paired.length r1, sizeLine_eq]
    omega
  refine wpAny_call (PySem.HandSPX.call_own PySem.F.excBase_ValueError (fun Y => PySem.HandSPX.refsVE_contains Y bm hbm) (I1.kIn _ _ hC) (PySem.W.looks_findIn I1.kIn iC) (fun self => PySem.W.bind_fn I1.kIn self tI) hus
    (codeAny_mono (F1.run _ X.stack _ _ ⟨Value.ref (hp.objs.size + 1) :: us, []⟩ (Value.ref (hp.objs.size + 1) :: (us ++ ds)) _ _ (fun _ _ _ => False) (hr.make C us []) (J.env0.make C us []) (hb _ (Value.ref (hp.objs.size + 1) :: us) J.kIn hl) rs hq) ?_))
  rintro (er | fl) s' z
  · exact hx pins σ _ _ er s' J z
  · match fl, z with
    | .ret u, z =>
      obtain ⟨v, H', I3, rv, ev, q3⟩ := J.after z
      subst ev
      exact ⟨rv, V.ref (hp.objs.size + 1), H', I3, rfl, q3⟩
theorem pe_oex {CX : CXT} {x : Str} {C fI : Addr} {k : Nat} {fd : FuncData} {ps : List Str} {sp : Sp} {ds : List Value} {dvs : List V} (T : OexC X.K C) (iC : PySem.W.findIn X.K (.ref C) "__init__" = some (some (.ref fI))) (tI : PySem.W.typeIn X.K (.ref fI) = some (.type "function"))
    (F1 : FnOk X.prog X.w X.K X.mg X.base CX k fI fd ps sp) (hr : Room (k + 1) X.A) (hb : Binds X.K fd ps ds) (hd : Vals dvs ds) (hx : Passes CX X (fun _ _ _ => False)) (hg : Gl X x) (hm : X.mg x = some (.ref C)) (ha : PA X (e :: es) ta)
    (hdb : (x == ("__debug__" : Str)) = false := by decide) (he : starEach (e :: es) X.env = (false, eval e X.env) :: starEach es X.env := by rfl) (hpl : (backTo pos (starEach es X.env)).any (·.1) = false := by rfl) :
    PE X (.Call (.Name x p) (e :: es) [] pos) (tOex C sp dvs ta) := by
  constructor
  intro pins s σ H Q I h
  apply wpAny_Call_Name_kw
  apply ld_glob I hg hm _ hdb
  refine PySem.W.callWith_K (h₀ := X.base) I.ok.mod.kin T.kC ?_ he hpl
  refine thn (ha.run pos pins s σ H _ I h) ?_
  rintro us s1 ⟨vs, H1, I1, r1, hz, q1⟩
  exact ⟨I1.kIn, run_oex T iC tI F1 hr hb hd hx I1 r1 hz q1⟩
/-- C(), all by default -/
theorem pe_oex0 {CX : CXT} {x : Str} {C fI : Addr} {k : Nat} {fd : FuncData} {ps : List Str} {sp : Sp} {ds : List Value} {dvs : List V} (T : OexC X.K C) (iC : PySem.W.findIn X.K (.ref C) "__init__" = some (some (.ref fI))) (tI : PySem.W.typeIn X.K (.ref fI) = some (.type "function"))
    (F1 : FnOk X.prog X.w X.K X.mg X.base CX k fI fd ps sp) (hr : Room (k + 1) X.A) (hb : Binds X.K fd ps ds) (hd : Vals dvs ds) (hx : Passes CX X (fun _ _ _ => False)) (hg : Gl X x) (hm : X.mg x = some (.ref C)) (hdb : (x == ("__debug__" : Str)) = false := by decide) :
    PE X (.Call (.Name x p) [] [] pos) (tOex C sp dvs tNil) := by
  constructor
  intro pins s σ H Q I h
  apply wpAny_Call_Name_kw
  apply ld_glob I hg hm _ hdb
  obtain ⟨hz, q1⟩ := h
  exact PySem.W.callWith_K0 I.kIn T.kC (run_oex (us := []) T iC tI F1 hr hb hd hx I .nil hz q1)
end
end ErV
set_option Elab.async false
set_option linter.all false
set_option maxRecDepth 100000
set_option maxHeartbeats 4000000
/-! The fields of an own exception held as a value. -/
namespace ErV
open PySem PySem.Spec PyProof.Rows L2
/-- e.f, e an exception with a dict, held as a value -/
def tXv (K : PySem.W.Frag) (f : Str) (te : TE) : TE := fun σ H Q => te σ H fun x H1 => ∃ (a C dx : Addr) (fs : List (Str × V)) (v : V), x = .ref a ∧ H1 a = some (exo a C (some dx)) ∧ H1 dx = some (exd dx fs) ∧ XfC K C ∧ PySem.W.findIn K (.ref C) f = some none ∧ fs.lookup f = some v ∧ Q v H1
theorem pe_xv {X : Cx} {e : Expr} {te : TE} {pos : Pos} {f : Str} (he : PE X e te) (hb : attributeBase e f X.env (eval e X.env) = eval e X.env := by rfl) : PE X (.Attribute e f pos) (tXv X.K f te) := by
  constructor
  intro pins s σ H Q I h
  refine attr_of hb (thn (he.run pins s σ H _ I h) ?_)
  rintro u s1 ⟨x, H1, J, rx, a, C, dx, fs, v, ex, ha, hd, T, hno, hl, q⟩
  subst ex
  cases (show u = Value.ref a from rx)
  obtain ⟨t1, hoe⟩ := exo_at J.hok ha
  obtain ⟨mA, hns, rel⟩ := exd_at J.hok hd
  obtain ⟨od, ho, hlk⟩ := lookIn_ns hns
  obtain ⟨w0, hw, rw0⟩ := RelO.some_of (v := v) (o := mA f) (by rw [← hl]; exact rel f)
  exact HandSPX.exc_get J.kIn ⟨hoe, rfl, rfl, ho⟩ T.ga T.gg T.exC (PySem.W.findObj_own T.hdC hno rfl (by rw [hlk, hw])) (handed_of rw0) ⟨v, H1, J.tok _, rw0, q⟩
end ErV
set_option Elab.async false
set_option linter.all false
set_option maxRecDepth 100000
set_option maxHeartbeats 4000000
/-! isinstance of an own exception with a dict, held as a value. -/
namespace ErV
open PySem PySem.Spec PyProof.Rows L2
/-- isinstance(e, c) -/
def rIsO (K : PySem.W.Frag) : List V → Hp → VK → Prop := fun xs H Q => ∃ (a D dx : Addr) (fs : List (Str × V)) (c : V) (cv : Value) (b : Bool), xs = [.ref a, c] ∧ H a = some (exo a D (some dx)) ∧ H dx = some (exd dx fs) ∧ ExcC K D ∧ (∀ u, RelV c u → u = cv) ∧ PySem.W.kitOne K (.ref D) cv = some b ∧ Q (.bl b) H
theorem call_isO {X : Cx} : CallR X (.builtin "isinstance") (rIsO X.K) := by
  intro pins s σ H xs us Q I r h
  obtain ⟨a, D, dx, fs, c, cv, b, rfl, ha, hd, C, hcv, e, q⟩ := h
  obtain ⟨u1, u2, rfl, r1, r2⟩ := vals2 r
  cases (show u1 = Value.ref a from r1)
  have ec := hcv _ r2
  subst ec
  obtain ⟨t1, hoe⟩ := exo_at I.hok ha
  obtain ⟨mA, hns, rel⟩ := exd_at I.hok hd
  obtain ⟨od, ho, hlk⟩ := lookIn_ns hns
  have hcl : (PySem.W.clsIn X.K D).isSome = true := by
    obtain ⟨cd, hc, _⟩ := PySem.W.any_some C.hd
    rw [hc]
    rfl
  exact PySem.W.kia_one (PySem.W.kitx_exc (od := some od) hcl C.hg C.hk C.hs C.ha C.hn C.ht C.hm) I.kIn ⟨hoe, rfl, rfl, ho⟩ e (fun z => nomatch z) fun tk => ⟨.bl b, H, I.tok tk, rfl, q⟩
end ErV
set_option Elab.async false
set_option linter.all false
set_option maxRecDepth 100000
set_option maxHeartbeats 4000000
/-! A def called in an except suite with the exception that is handled there. -/
namespace ErV
open PySem PySem.Spec PyProof.Rows L2 L2H
section
variable {P : Program} {w : World} {K : PySem.W.Frag} {mg : Str → Option Value} {base : Heap} {k : Nat} {f : Addr} {name qual : Str} {params : Arguments} {body : List Stmt} {scope : Scope} {dV kV doc pm cdv ct oc : Value} {an od : Option Addr} {osl : Array (Option Value)} {N ps : List Str}
/-- the call's run, the handled exception p known -/
theorem hot_run (lk : K.lookup f = some ⟨oc, od, .func (PySem.W.fnOf name qual params body scope dV kV doc pm an cdv ct), osl⟩) (hcd : PySem.W.codeIn K cdv qual = true) (S : FnScope N ps scope) {A : Around} {outer : List Env} {s : Shared} {H : Hp} {args : Args} {us : List Value} {vs : List V} {Q : VK} {E : XK} {p : Addr × Obj} {t : TS}
    (hl : vs.length = ps.length) (dp : A.depth < recursionLimit) (hpin : PinOk outer H s p) (e0 : Env0 P w K mg base A outer s H) (hb : BindsTo s (PySem.W.fnOf name qual params body scope dV kV doc pm an cdv ct) args (ps.zip us)) (r : Vals vs us)
    (ht : PSs (cxH CX0 P w K mg base N qual scope f cdv A outer s H E p) body t) (hq : t { nx := fun _ H' => Q .non H', rt := Q } (L2.start N vs) H) : codeAny (model P w) A (.call (.ref f) args) (CR CX0 outer P w H s Q E) s := by
  have KX : K.In s.heap := e0.mod.kin.keeps fun b o z => (e0.bs b o z).1
  have nl : s.heap.NoLimit := e0.mod.nolimit.keeps fun b o z => (e0.bs b o z).1
  refine codeAny_call_function dp (KX _ _ lk) rfl S.co S.gen rfl (PySem.W.codeRec_of KX hcd) (hb _ _ _ _ ?_)
  refine wpAny_newFunctionEnv_cells S.kind (fun y hy => ?_) fun env he s1 x => ?_
  · rcases S.par y.1 (List.of_mem_zip (a := y.1) (b := y.2) hy).1 with c | c
    · exact .inl c
    · exact .inr ⟨c, PySem.W.cellsFrom_some _ _ _ (.inl c)⟩
  · subst he
    refine ⟨nl.keeps x.toInCall.keep, codeAny_func ?_⟩
    have J := inv_startH (E := E) (CX := CX0) S hpin e0 hl r x
    refine wpAny_mono (ht.run [] s1 (L2.start N vs) H _ J hq) ?_ fun _ _ z => z
    intro fl s' z
    match fl, z with
    | .ret u, ⟨v, σ', H', J', rv, q⟩ => exact ⟨v, H', J'.os, J'.bare, J'.base, J'.hok, rv, q⟩
    | .next, ⟨σ', H', J', q⟩ => exact ⟨V.non, H', J'.os, J'.bare, J'.base, J'.hok, rfl, q⟩
    | .brk, ⟨_, _, _, q⟩ => exact False.elim q
    | .cont, ⟨_, _, _, q⟩ => exact False.elim q
end
section
variable {X : Cx} {f a : Addr} {oe : Obj} {x : Str} {e : Expr} {te : TE} {q pos : Pos} {k : Nat} {name qual : Str} {params : Arguments} {body : List Stmt} {scope : Scope} {dV kV doc pm cdv ct oc : Value} {an od : Option Addr} {osl : Array (Option Value)} {N : List Str} {y : Str}
/-- x(e), e the exception that is handled: its body is walked with it -/
theorem pe_hot (hp : (a, oe) ∈ X.pn) (lk : X.K.lookup f = some ⟨oc, od, .func (PySem.W.fnOf name qual params body scope dV kV doc pm an cdv ct), osl⟩) (hcd : PySem.W.codeIn X.K cdv qual = true) (S : FnScope N [y] scope) (hr : RoomH (k + 1) X.A) (hg : Gl X x) (hm : X.mg x = some (.ref f)) (hk : PySem.W.keepIn X.K (.ref f) = true)
    (hb : Binds X.K (PySem.W.fnOf name qual params body scope dV kV doc pm an cdv ct) [y] []) (spx : Hp → VK → Prop)
    (hbody : ∀ (A : Around) (outer : List Env) (s : Shared) (H : Hp) (Q : VK) (E : XK), RoomH k (A.deeper (envOfC qual scope s.heap.objs.size f cdv)) → spx H Q → ∃ t, PSs (cxH CX0 X.prog X.w X.K X.mg X.base N qual scope f cdv A outer s H E (a, oe)) body t ∧ t { nx := fun _ H' => Q .non H', rt := Q } (L2.start N [.ref a]) H)
    (he : PE X e te) (hdb : (x == ("__debug__" : Str)) = false := by decide) (hs : starEach [e] X.env = (false, eval e X.env) :: starEach [] X.env := by rfl) :
    PE X (.Call (.Name x q) [e] [] pos) (fun σ H Q => te σ H fun v H1 => v = .ref a ∧ spx H1 Q) := by
  constructor
  intro pins s σ H Q I h
  apply wpAny_Call_Name_kw
  apply ld_glob I hg hm _ hdb
  refine PySem.W.callWith_K (h₀ := X.base) I.ok.mod.kin hk ?_ hs (by rfl)
  rw [hs]
  refine Calls.spliced_cons (thn (he.run pins s σ H _ I h) ?_)
  rintro u s1 ⟨v, H1, J, rv, ev, q1⟩
  subst ev
  cases (show u = Value.ref a from rv)
  refine Calls.spliced_nil ⟨J.kIn, ?_⟩
  have P1 := J.pin (a, oe) (List.mem_append_left _ hp)
  have hpin : PinOk X.stack H1 s1 (a, oe) := ⟨P1.1, P1.2.1, fun z => (List.mem_cons.mp (J.stkSub a z)).elim P1.2.2.1 P1.2.2.2.1, P1.2.2.2.2⟩
  obtain ⟨t, ht, hq⟩ := hbody X.A X.stack s1 H1 Q E0 (hr.deeper _) q1
  refine wpAny_call (codeAny_mono (hot_run (us := [.ref a]) (vs := [V.ref a]) lk hcd S rfl hr.depth hpin J.env0 (hb s1 [.ref a] J.kIn rfl) (.cons rfl .nil) ht hq) ?_)
  rintro (er | fl) s' z
  · exact z.elim
  · match fl, z with
    | .ret u, z => exact J.after z
end
/-- isinstance(e, c), e an exception that the context bears -/
theorem call_isP {X : Cx} {a D : Addr} {oe : Obj} {d : Option Addr} (hp : (a, oe) ∈ X.pn) (C : ExcC X.K D) (hz : Zc (.ref D) none oe) (hf : ∃ vs, oe.data = .fields vs) : CallR X (.builtin "isinstance") (rIsE X.K D a) := by
  intro pins s σ H xs us Q I r h
  obtain ⟨c, cv, b, rfl, hcv, e, q⟩ := h
  obtain ⟨u1, u2, rfl, r1, r2⟩ := vals2 r
  cases (show u1 = Value.ref a from r1)
  have ec := hcv _ r2
  subst ec
  have hget := (I.pin (a, oe) (List.mem_append.mpr (.inl hp))).1
  obtain ⟨vs, hv⟩ := hf
  have J : PySem.W.InstAt s.heap a oe D none := by
    obtain ⟨oc, od, oda, osl⟩ := oe
    obtain ⟨h1, h2⟩ := hz
    dsimp only at h1 h2 hv
    subst h1 h2 hv
    exact ⟨hget, rfl, rfl, trivial⟩
  exact PySem.W.kia_one (PySem.W.handS_kitx_exc C.hg C.hk C.hs C.hd C.ha C.hn C.ht C.hm) I.kIn J e (fun z => nomatch z) fun tk => ⟨.bl b, H, I.tok tk, rfl, q⟩
/-- the same, the exception has a dict at dd -/
def rIsPd (K : PySem.W.Frag) (D a dd : Addr) : List V → Hp → VK → Prop := fun xs H Q => ∃ (fs : List (Str × V)) (c : V) (cv : Value) (b : Bool), xs = [.ref a, c] ∧ H dd = some (.xd fs) ∧ (∀ u, RelV c u → u = cv) ∧ PySem.W.kitOne K (.ref D) cv = some b ∧ Q (.bl b) H
theorem call_isPd {X : Cx} {a D dd : Addr} {oe : Obj} (hp : (a, oe) ∈ X.pn) (C : ExcC X.K D) (hz : Zc (.ref D) (some dd) oe) (hf : ∃ vs, oe.data = .fields vs) : CallR X (.builtin "isinstance") (rIsPd X.K D a dd) := by
  intro pins s σ H xs us Q I r h
  obtain ⟨fs, c, cv, b, rfl, hd, hcv, e, q⟩ := h
  obtain ⟨u1, u2, rfl, r1, r2⟩ := vals2 r
  cases (show u1 = Value.ref a from r1)
  have ec := hcv _ r2
  subst ec
  have hget := (I.pin (a, oe) (List.mem_append.mpr (.inl hp))).1
  obtain ⟨vs, hv⟩ := hf
  obtain ⟨mA, hns, rel⟩ := (show ObjOk X.prog X.w H s.heap dd (.xd fs) from I.hok dd _ hd)
  obtain ⟨od, ho, hlk⟩ := lookIn_ns hns
  have hcl : (PySem.W.clsIn X.K D).isSome = true := by
    obtain ⟨cd, hc, _⟩ := PySem.W.any_some C.hd
    rw [hc]
    rfl
  have J : PySem.W.InstAt s.heap a oe D (some od) := ⟨hget, hz.1, by unfold PySem.W.notCls; rw [hv] <;> rfl, by rw [hz.2]; exact ho⟩
  exact PySem.W.kia_one (PySem.W.kitx_exc (od := some od) hcl C.hg C.hk C.hs C.ha C.hn C.ht C.hm) I.kIn J e (fun z => nomatch z) fun tk => ⟨.bl b, H, I.tok tk, rfl, q⟩
end ErV
set_option Elab.async false
set_option linter.all false
set_option maxRecDepth 100000
set_option maxHeartbeats 4000000
/-! Own exceptions made by a keyword. -/
namespace ErV
open PySem PySem.HandSPX
section
variable {M : Model} {prog : Program} {w : World} {A : Around} {E : Value → Shared → Prop} {R : Result → Shared → Prop} {h : Heap} {g : Array GenState} {d : Drawn} {t : Nat} {os : OsState}
variable {nm q : Str} {C N : Addr} {bs bm bmB : List Value} {hdct : Bool} {sn : List Str} {sub : List Value} {ab : Bool} {col : Option Bool} {dd : Option Addr} {k0 k1 k2 k3 k5 : Option Value} {B newId initId : String} {kn : Str} {kv : Value}
theorem kw_check (F : ExcBaseFacts B newId initId bmB) (hT : ∀ X : String, bm.contains (.type X) = bmB.contains (.type X)) {Q : Unit → Shared → Prop} (hC : h.get? C = some (excClassObj nm q C N bs bm hdct sn sub ab col dd k0 k1 k2 k3 k5 newId)) (hq : Q () ⟨h, g, d, t, os⟩) :
    wpAny M A (checkBuiltinCall newId ⟨[.ref C], [(kn, kv)]⟩) Q E ⟨h, g, d, t, os⟩ := by
  have c1 : (Value.ref C :: bm).contains (.type B) = true := by rw [List.contains_cons, hT, F.hasB, Bool.or_true]
  have c2 := F.noStar
  simp only [checkBuiltinCall, F.newKind, F.newSplit, F.newRow]
  repeat (first
    | refine wpAny_loadPart_at hC ?_
    | (refine wpAny_isSubtype_exc hC ?_; rw [c1])
    | refine wpAny_staticBase_exc hC ?_
    | refine wpAny_madeBy_exc hC ?_
    | simp only [bne_self_eq_false, Bool.false_eq_true, if_false]
    | wp_step)
  exact hq
theorem kw_new (F : ExcBaseFacts B newId initId bmB) (hT : ∀ X : String, bm.contains (.type X) = bmB.contains (.type X)) (hC : h.get? C = some (excClassObj nm q C N bs bm hdct sn sub ab col dd k0 k1 k2 k3 k5 newId))
    (hq : R (.ok (.ret (.ref (h.objs.size + 1)))) ⟨(h.push (W.kdv_tup [])).push (excO C h.objs.size), g, d, t, os⟩) : codeAny (model prog w) A (.builtin newId ⟨[.ref C], [(kn, kv)]⟩) R ⟨h, g, d, t, os⟩ := by
  have c0 := F.ends
  have c1 : (Value.ref C :: bm).contains (.type B) = true := by rw [List.contains_cons, hT, F.hasB, Bool.or_true]
  have c2 : (Value.ref C :: bm).contains (.type "AttributeError") = false := by
    rw [List.contains_cons, hT, F.noAttr]
    rfl
  have c3 : (Value.ref C :: bm).contains (.type "NameError") = false := by
    rw [List.contains_cons, hT, F.noName]
    rfl
  apply codeAny_builtinAt F.entry
  unfold Builtin.«BaseException.__new__»
  refine wpAt_bind ?_
  show wpAt _ _ _ (stack >>= _) _ _ _
  refine wpAt_bind (wpAt_stack fun p below => wpAt_of_wpAny ?_)
  wp_walk
  refine wpAt_of_wpAny ?_
  rw [F.owner]
  repeat (first
    | with_reducible refine wpAny_madeHere_exc F.canon hC ?_
    | with_reducible refine wpAny_loadPart_at hC ?_
    | (with_reducible refine wpAny_isSubtype_exc hC ?_; first | rw [c1] | rw [c2] | rw [c3])
    | wp_step)
  show R _ _
  rw [Heap.size_push]
  exact hq
theorem kw_type (F : ExcBaseFacts B newId initId bmB) (hT : ∀ X : String, bm.contains (.type X) = bmB.contains (.type X)) {fI : Addr} {Q : Fin → Shared → Prop} (hC : h.get? C = some (excClassObj nm q C N bs bm hdct sn sub ab col dd k0 k1 k2 k3 k5 newId))
    (hi : W.Looks (model prog w) h (typeLookup (.ref C) "__init__") (some (.ref fI))) (hb : ∀ self, W.Looks (model prog w) h (bindSpecial (.ref fI) self) (.ref fI, [self]))
    (hq : codeAny (model prog w) A (.call (.ref fI) ⟨[.ref (h.objs.size + 1)], [(kn, kv)]⟩)
      (fun r s' => match r with | .ok (.ret v) => v = .none ∧ Q (.done (.ret (.ref (h.objs.size + 1)))) s' | .ok _ => False | .error e => E e s') ⟨(h.push (W.kdv_tup [])).push (excO C h.objs.size), g, d, t, os⟩) :
    wpAny (model prog w) A (Builtin.«type.__call__» ⟨[.ref C], [(kn, kv)]⟩) Q E ⟨h, g, d, t, os⟩ := by
  repeat (first
    | with_reducible refine wpAny_loadPart_at hC ?_
    | with_reducible refine wpAny_madeBy_exc hC ?_
    | wp_step)
  apply codeAny_call_builtin_code (Code.quiet_builtin _ F.quiet)
  apply kw_check F hT hC
  apply kw_new F hT hC
  show wpAny _ _ _ _ _ _
  have k : ∀ b o, h.get? b = some o → ((h.push (W.kdv_tup [])).push (excO C h.objs.size)).get? b = some o := fun b o z => Heap.get?_push_of_some _ (Heap.get?_push_of_some _ z)
  have k1' := k _ _ hC
  have k2' : ((h.push (W.kdv_tup [])).push (excO C h.objs.size)).get? (h.objs.size + 1) = some (excO C h.objs.size) := by heap_get
  have k3' : (Value.ref C :: bm).contains (.ref C) = true := by simp
  have i1 := hi.keeps k
  have b1 := (hb (.ref (h.objs.size + 1))).keeps k
  unfold isInstance
  repeat (first
    | with_reducible refine wpAny_loadPart_at k2' ?_
    | (with_reducible refine wpAny_isSubtype_exc k1' ?_; rw [k3'])
    | wp_step)
  show wpAny _ _ (typeLookup (.ref C) _) _ _ _
  refine i1.at ?_
  refine wpAny_holding (wpAny_bind (b1.at ?_))
  refine wpAny_bind (wpAny_call (codeAny_mono hq ?_))
  intro r s' z
  rcases r with e | (v | _ | _ | _) <;> first | exact z | exact z.elim | skip
  obtain ⟨rfl, z⟩ := z
  first
    | exact wpAny_pure (wpAny_pure z)
    | (wp_walk; exact z)
theorem kw_call (F : ExcBaseFacts B newId initId bmB) (hT : ∀ X : String, bm.contains (.type X) = bmB.contains (.type X)) {fI : Addr} (hC : h.get? C = some (excClassObj nm q C N bs bm hdct sn sub ab col dd k0 k1 k2 k3 k5 newId))
    (hi : W.Looks (model prog w) h (typeLookup (.ref C) "__init__") (some (.ref fI))) (hb : ∀ self, W.Looks (model prog w) h (bindSpecial (.ref fI) self) (.ref fI, [self]))
    (hq : codeAny (model prog w) (A.under (.builtin "type.__call__" ⟨[.ref C], [(kn, kv)]⟩)) (.call (.ref fI) ⟨[.ref (h.objs.size + 1)], [(kn, kv)]⟩) (W.InitBack (h.objs.size + 1) R) ⟨(h.push (W.kdv_tup [])).push (excO C h.objs.size), g, d, t, os⟩) :
    codeAny (model prog w) A (.call (.ref C) ⟨[], [(kn, kv)]⟩) R ⟨h, g, d, t, os⟩ := by
  have f1 := tc_lookup
  have f2 := tc_bind (.ref C)
  have f3 : (⟨h, g, d, t, os⟩ : Shared).TypeIs (.ref C) "type" := ⟨_, hC, rfl⟩
  apply codeAny_of_tree
  show wpAny _ _ (callAny (.ref C) _) _ _ _
  repeat (any_goals (first
    | assumption
    | with_reducible refine wpAny_loadPart_at hC ?_
    | wp_step))
  refine ⟨rfl, ?_⟩
  refine codeAny_call_builtin_at (Code.quiet_builtin _ (by decide +kernel)) entry_typeCall (wpAny_check_type_call_sub hC (kw_type F hT hC hi hb ?_))
  refine codeAny_mono hq ?_
  intro r s' z
  rcases r with e | (v | _ | _ | _) <;> exact z
end
end ErV
set_option Elab.async false
set_option linter.all false
set_option maxRecDepth 100000
set_option maxHeartbeats 4000000
namespace ErV
open PySem PySem.Spec PyProof.Rows L2
section
variable {X : Cx} {kws : List Keyword} {tk : TA} {p pos : Pos}
/-- C(k = v), C with an __init__ of the text -/
def tOexK (C : Addr) (sp : Sp) (tk : TA) : TE := fun σ H Q => tk σ H fun zs H1 => ∃ z, zs = [z] ∧ ∀ a, H1 a = none → sp [.ref a, z] (upd H1 a (exo a C none)) (fun v H2 => v = .non ∧ Q (.ref a) H2) (fun _ _ _ => False)
theorem pe_oexK {CX : CXT} {x kn : Str} {C fI : Addr} {k : Nat} {fd : FuncData} {ps : List Str} {sp : Sp} (T : OexC X.K C) (iC : PySem.W.findIn X.K (.ref C) "__init__" = some (some (.ref fI))) (tI : PySem.W.typeIn X.K (.ref fI) = some (.type "function"))
    (F1 : FnOk X.prog X.w X.K X.mg X.base CX k fI fd ps sp) (hr : Room (k + 1) X.A) (hb : ∀ (s : Shared) (a v : Value), X.K.In s.heap → BindsTo s fd ⟨[a], [(kn, v)]⟩ (ps.zip [a, v])) (hx : Passes CX X (fun _ _ _ => False)) (hg : Gl X x) (hm : X.mg x = some (.ref C)) (hkw : PK X kws tk)
    (hall : (backToKw pos (keywordEach kws X.env)).all (·.1.isSome) = true := by rfl) (hks : (backToKw pos (keywordEach kws X.env)).filterMap (·.1) = [kn] := by rfl) (hdb : (x == ("__debug__" : Str)) = false := by decide)
    (hpl : ((backTo pos (starEach [] X.env)).any (·.1) || (backToKw pos (keywordEach kws X.env)).any (·.1.isNone)) = false := by rfl) : PE X (.Call (.Name x p) [] kws pos) (tOexK C sp tk) := by
  constructor
  intro pins s σ H Q I h
  apply wpAny_Call_Name_kw
  apply ld_glob I hg hm _ hdb
  refine PySem.W.callWith_KW0 (h₀ := X.base) I.ok.mod.kin T.kC hall ?_ hpl
  refine thn (hkw.run pos pins s σ H _ I h) ?_
  rintro ws s1 ⟨zs, H1, I1, rz, z, ez, q1⟩
  subst ez
  refine ⟨I1.kIn, ?_⟩
  rw [hks]
  match ws, rz with
  | [u], .cons ru .nil =>
    show wpAny _ _ (call (.ref C) [] [(kn, u)]) _ _ _
    obtain ⟨nm, q, N, bs, bm, sn, sub, ab, col, dd, k0, k1, k2, k3, k5, hC, hbm⟩ := T.cls
    obtain ⟨hp, g, dr, tk', os⟩ := s1
    have hn : H1 (hp.objs.size + 1) = none := I1.hok.fresh (Nat.le_succ _)
    have hq := q1 (hp.objs.size + 1) hn
    have hget : ((hp.push (PySem.W.kdv_tup [])).push (PySem.HandSPX.excO C hp.objs.size)).get? (hp.objs.size + 1) = some (PySem.HandSPX.excO C hp.objs.size) := by heap_get
    have J : Inv X pins σ (upd H1 (hp.objs.size + 1) (exo (hp.objs.size + 1) C none)) ⟨(hp.push (PySem.W.kdv_tup [])).push (PySem.HandSPX.excO C hp.objs.size), g, dr, tk', os⟩ :=
      I1.laid (t' := tk') (fun b o z => Heap.get?_push_of_some _ (Heap.get?_push_of_some _ z)) (Nat.le_succ _) (exo_ok hget)
    have rs : Vals [V.ref (hp.objs.size + 1), z] [Value.ref (hp.objs.size + 1), u] := .cons rfl (.cons ru .nil)
    refine wpAny_call (kw_call PySem.F.excBase_ValueError (fun Y => PySem.HandSPX.refsVE_contains Y bm hbm) (I1.kIn _ _ hC) (PySem.W.looks_findIn I1.kIn iC) (fun self => PySem.W.bind_fn I1.kIn self tI)
      (codeAny_mono (F1.run _ X.stack _ _ ⟨[Value.ref (hp.objs.size + 1)], [(kn, u)]⟩ [Value.ref (hp.objs.size + 1), u] _ _ (fun _ _ _ => False) (hr.make C [] [(kn, u)]) (J.env0.make C [] [(kn, u)]) (hb _ _ _ J.kIn) rs hq) ?_))
    rintro (er | fl) s' z'
    · exact hx pins σ _ _ er s' J z'
    · match fl, z' with
      | .ret u', z' =>
        obtain ⟨v, H', I3, rv, ev, q3⟩ := J.after z'
        subst ev
        exact ⟨rv, V.ref (hp.objs.size + 1), H', I3, rfl, q3⟩
end
end ErV
set_option Elab.async false
set_option linter.all false
set_option maxRecDepth 100000
namespace Tx
open PySem PySem.Spec PyProof.Rows L2
/-! ### the text by places -/
def topS (i : Nat) : Stmt := PySem.Challenge.pw_spreadmounts_k21_errors_by_themselves.main.body.getD i (.Pass ⟨0, 0, 0, 0⟩)
abbrev sPathI : Stmt := inClass (topS 19) 0
abbrev sManyI : Stmt := inClass (topS 20) 0
abbrev sTextI : Stmt := inClass (topS 21) 0
abbrev sCell : Stmt := topS 23
abbrev sDigit : Stmt := topS 24
abbrev sClass : Stmt := topS 25
abbrev sPlain : Stmt := topS 26
abbrev sBare : Stmt := topS 27
abbrev sMet : Stmt := topS 28
abbrev sLaw : Stmt := topS 29
structure Bi (mg : Str → Option Value) : Prop where
  isin : mg "isinstance" = none
  int : mg "int" = none
  len : mg "len" = none
  ve : mg "ValueError" = none
theorem take_snoc {α : Type} {l : List α} {i : Nat} {x : α} (h : l[i]? = some x) : l.take (i + 1) = l.take i ++ [x] := by
  rw [List.take_add_one, h]
  rfl
end Tx
set_option Elab.async false
set_option linter.all false
set_option maxRecDepth 100000
set_option maxHeartbeats 8000000
namespace Tx
open PySem PySem.Spec PyProof.Rows L2 Cm
theorem scDigit : FnScope ["_law_state", "_law_base", "_law_cell", "_law_found", "_law_number"] ["_law_state", "_law_base"] (defScope sDigit) := ⟨rfl, rfl, rfl, by decide +kernel, rfl, by decide +kernel, by decide +kernel⟩
theorem scCell : FnScope ["_law_script", "_law_k"] ["_law_script", "_law_k"] (defScope sCell) := ⟨rfl, rfl, rfl, by decide +kernel, rfl, by decide +kernel, by decide +kernel⟩
/-- _law_cell_at -/
def spCell (K : PySem.W.Frag) : Sp := fun vs H Q _ => ∃ (a : Addr) (ns : List Int) (k : Nat), vs = [.ref a, .int k] ∧ SqL K H a (ns.map V.int) ∧ ∀ i : Int, (∀ j, ns[k]? = some j → i = j) → Q (.int i) H
section
variable {P : Program} {w : World} {K : PySem.W.Frag} {mg : Str → Option Value} {base : Heap}
theorem ok_cell {f : Addr} {fd : FuncData} {k : Nat} (F : Fun K "_law_cell_at" "_law_cell_at" sCell f fd) (B : Bi mg) : FnOk P w K mg base CX0 (k + 1) f fd ["_law_script", "_law_k"] (spCell K) := by
  refine F.ok scCell (fun vs H Q E h => ?_) (fun cdv A outer s H vs Q E hr h => ?_)
  · obtain ⟨a, ns, j, rfl, _⟩ := h
    rfl
  · obtain ⟨a, ns, j, rfl, hS, q⟩ := h
    refine ⟨_, pss_cons (ps_if (pt_cmpR op_lt (pv 1) (pe_callB call_len_seq (by rfl) B.len PySem.boot_len (pa_cons (pv 0) pa_nil)) (nomark _)) (pss_one (ps_ret (pe_ix ix_list (pv 0) (pv 1) (fun _ _ => rfl)))) pss_nil) (pss_one (ps_ret pe_int)), ?_⟩
    refine ⟨_, rfl, _, rfl, a, _, rfl, .inl hS, _, _, rfl, rfl, _, rfl, ite2 (fun c => ?_) (fun c => ?_)⟩
    · have c' : (j : Int) < ((ns.map V.int).length : Nat) := of_decide_eq_true c
      rw [List.length_map] at c'
      have hj : j < ns.length := by omega
      refine ⟨_, rfl, _, rfl, a, _, j, .int ns[j], rfl, rfl, hS, ?_, q _ fun i e => ?_⟩
      · refine atI_nat ?_
        rw [List.getElem?_map, List.getElem?_eq_getElem hj]
        rfl
      · rw [List.getElem?_eq_getElem hj] at e
        exact Option.some.inj e
    · have c' : ¬ (j : Int) < ((ns.map V.int).length : Nat) := fun z => c (decide_eq_true z)
      rw [List.length_map] at c'
      exact q 0 fun i e => by
        have := (List.getElem?_eq_some_iff.mp e).1
        omega
theorem ok_digit {f : Addr} {fd : FuncData} {k : Nat} (F : Fun K "_law_digit" "_law_digit" sDigit f fd) (B : Bi mg) : FnOk P w K mg base CX0 (k + 1) f fd ["_law_state", "_law_base"] spDigit := by
  refine F.ok scDigit (fun vs H Q E h => ?_) (fun cdv A outer s H vs Q E hr h => ?_)
  · obtain ⟨l, st, b, rfl, _⟩ := h
    rfl
  · obtain ⟨l, st, b, rfl, hl, hst, hb0, hb1, q⟩ := h
    refine ⟨_, C8.pss_cut (ps_if (pt_cmpR op_eq (pe_callB call_len_seq (by rfl) B.len PySem.boot_len (pa_cons (pv 0) pa_nil)) pe_int (nomark _))
        (pss_cons (ps_set (i := 2) scDigit.nd rfl (.inl rfl) (pe_ix ix_list (pv 0) pe_int (fun _ _ => rfl)))
        (pss_cons (ps_asg (pe_ix ix_list (pe_lst (pa_cons pe_int (pa_cons (pv 2) pa_nil))) (pe_callTy call_int1 (by rfl) B.int (by decide +kernel) (pa_cons (pe_cmpR op_ge (pv 2) (pe_op op_pow pe_int pe_int) (nomark _)) pa_nil)) (fun _ _ => rfl)) (pg_sub (pv 0) pe_int set_list))
          (pss_one (ps_expr (pe_bm PySem.F.plainAttrs_list PySem.F.slot_list_extend PySem.F.type_list_extend mt_extend (pv 0) (pa_cons (pe_lst (pa_cons (pe_op op_mod (pe_callTy call_int1 (by rfl) B.int (by decide +kernel) (pa_cons (pv 2) pa_nil)) pe_int) (pa_cons pe_int pa_nil))) pa_nil))))))
        pss_nil)
      (pss_cons (ps_if (pt_cmpR op_gt (pe_ix ix_list (pv 0) pe_int (fun _ _ => rfl)) pe_int (nomark _))
        (pss_cons (ps_set (i := 3) scDigit.nd rfl (.inl rfl) (pe_op op_mod (pe_callTy call_int1 (by rfl) B.int (by decide +kernel) (pa_cons (pe_ix ix_list (pv 0) pe_int (fun _ _ => rfl)) pa_nil)) (pv 1)))
          (pss_cons (ps_asg (pe_op op_fdiv (pe_ix ix_list (pv 0) pe_int (fun _ _ => rfl)) (pv 1)) (pg_sub (pv 0) pe_int set_list))
          (pss_one (ps_ret (pv 3))))) pss_nil)
      (pss_cons (ps_asg (pe_op op_add (pe_ix ix_list (pv 0) pe_int (fun _ _ => rfl)) pe_int) (pg_sub (pv 0) pe_int set_list))
      (pss_cons (ps_set (i := 4) scDigit.nd rfl (.inl rfl) (pe_op op_mod (pe_callTy call_int1 (by rfl) B.int (by decide +kernel) (pa_cons (pe_op op_mul (pe_op op_add (pe_op op_add (pe_ix ix_list (pv 0) pe_int (fun _ _ => rfl)) (pe_op op_mul pe_int (pe_ix ix_list (pv 0) pe_int (fun _ _ => rfl)))) pe_int) pe_int) pa_nil)) pe_int))
      (pss_cons (ps_set (i := 4) scDigit.nd rfl (.inl rfl) (pe_op op_mod (pe_callTy call_int1 (by rfl) B.int (by decide +kernel) (pa_cons (pe_op op_mul (pv 4) (pe_op op_add (pe_op op_fdiv (pv 4) pe_int) pe_int)) pa_nil)) pe_int))
      (pss_one (ps_ret (pe_op op_mod (pe_op op_mod (pe_callTy call_int1 (by rfl) B.int (by decide +kernel) (pa_cons (pe_op op_mul (pv 4) (pe_op op_add (pe_op op_fdiv (pv 4) pe_int) pe_int)) pa_nil)) pe_int) (pv 1)))))))), ?_⟩
    refine ⟨fun σ' H' => ∃ x a b' c, σ' = [some (.ref l), some (.int b), x, none, none] ∧ H' l = some (.lst [.int a, .int b', .int c]) ∧ But l H H', ?_, ?_⟩
    · refine ⟨_, rfl, l, st, rfl, .inl (SqL.of hl), rfl, _, rfl, ?_⟩
      rcases hst with ⟨c, rfl⟩ | ⟨a, b', c, rfl⟩
      · refine iteT ?_
        refine ⟨_, rfl, l, _, 0, .int c, rfl, rfl, SqL.of hl, rfl, ?_⟩
        refine ⟨_, rfl, (by show 2 ≤ sizeLine; decide), fun p hp => ?_⟩
        refine ⟨_, rfl, 10, 18, rfl, rfl, ⟨by decide, by decide, by decide⟩, c, _, rfl, rfl, .inr ⟨_, rfl, ?_⟩⟩
        have npl : l ≠ p := ne_of_none hl hp
        have hl1 : upd H p (.lst [.int 0, .int c]) l = some (.lst [.int c]) := by
          rw [upd_ne npl]
          exact hl
        obtain ⟨z, hz⟩ : ∃ z : Int, atI [V.int 0, V.int c] (if decide (10 ^ Int.toNat 18 ≤ c) = true then 1 else 0) = some (.int z) := by
          split
          · exact ⟨c, rfl⟩
          · exact ⟨0, rfl⟩
        refine ⟨p, _, _, .int z, rfl, rfl, SqL.of upd_same, hz, ?_⟩
        refine ⟨_, rfl, l, _, 0, 0, rfl, rfl, hl1, rfl, ?_⟩
        refine ⟨_, rfl, .inl ⟨rfl, _, SqL.of upd_same⟩, _, rfl, .inl ⟨c, rfl, ?_⟩⟩
        refine ⟨_, _, rfl, rfl, (by show (0 : Int) < 2147483647; decide), (by show 2 ≤ sizeLine; decide), fun p2 hp2 => ?_⟩
        have np2 : l ≠ p2 := ne_of_none upd_same hp2
        refine ⟨l, p2, _, _, rfl, rfl, (by rw [upd_ne np2]; exact upd_same), upd_same, (by show 1 + 2 ≤ sizeLine; decide), ?_⟩
        refine ⟨_, _, _, _, rfl, upd_same, fun b u n e => ?_⟩
        have e1 : upd H p (.lst [.int 0, .int c]) b = some u := by
          rw [upd_ne (ne_of_none e hp)]
          exact e
        have e2 : upd (upd H p (.lst [.int 0, .int c])) l (.lst [.int z]) b = some u := by
          rw [upd_ne n]
          exact e1
        rw [upd_ne n, upd_ne (ne_of_none e2 hp2)]
        exact e2
      · refine iteF ?_
        exact ⟨_, a, b', c, rfl, hl, But.refl l H⟩
    · rintro σ' H1 ⟨x, a, b', c, rfl, h1, bt⟩
      refine ⟨_, rfl, l, _, 0, .int a, rfl, rfl, SqL.of h1, rfl, a, 0, rfl, rfl, _, rfl, ite2 (fun ha => ?_) (fun ha => ?_)⟩
      · refine ⟨_, rfl, l, _, 0, .int a, rfl, rfl, SqL.of h1, rfl, .inl ⟨a, rfl, ?_⟩⟩
        refine ⟨_, rfl, a, b, rfl, rfl, hb0, ?_⟩
        refine ⟨_, rfl, l, _, 0, .int a, rfl, rfl, SqL.of h1, rfl, ?_⟩
        refine ⟨_, rfl, a, b, rfl, rfl, ⟨hb0, hb1⟩, ?_⟩
        refine ⟨_, rfl, l, _, 0, 0, rfl, rfl, h1, rfl, ?_⟩
        refine ⟨_, rfl, ?_⟩
        obtain ⟨d, hd, ed⟩ := mod_nat (x := a) hb0
        dsimp only
        rw [ed]
        exact q d _ _ hd (.inr ⟨_, _, _, rfl⟩) upd_same (bt.trans But.upd)
      · refine ⟨_, rfl, l, _, 2, .int c, rfl, rfl, SqL.of h1, rfl, c, 1, rfl, rfl, ?_⟩
        refine ⟨_, rfl, l, _, 2, 2, rfl, rfl, h1, rfl, ?_⟩
        refine ⟨_, rfl, l, _, 1, .int b', rfl, rfl, SqL.of upd_same, rfl, ?_⟩
        refine ⟨_, rfl, l, _, 2, .int (c + 1), rfl, rfl, SqL.of upd_same, rfl, ?_⟩
        refine ⟨7919, c + 1, rfl, rfl, .inl ⟨by decide, by decide⟩, b', _, rfl, rfl, _, _, rfl, rfl, _, _, rfl, rfl, .inr ⟨by decide, by decide⟩, .inl ⟨_, rfl, ?_⟩⟩
        refine ⟨_, _, rfl, rfl, (by show (0 : Int) < 2147483647; decide), ?_⟩
        obtain ⟨n1, hn1, en1⟩ := mod_nat (x := (b' + 7919 * (c + 1) + 1) * 48271) (b := 2147483647) (by decide)
        dsimp only
        rw [en1]
        refine ⟨_, rfl, _, rfl, n1, 1009, rfl, rfl, ⟨by decide, by decide⟩, _, _, rfl, rfl, n1, _, rfl, rfl, .inl ⟨by omega, by omega⟩, .inl ⟨_, rfl, ?_⟩⟩
        refine ⟨_, _, rfl, rfl, (by show (0 : Int) < 2147483647; decide), ?_⟩
        obtain ⟨n2, hn2, en2⟩ := mod_nat (x := (n1 : Int) * ((n1 : Int) / 1009 + 69621)) (b := 2147483647) (by decide)
        dsimp only
        rw [en2]
        refine ⟨_, rfl, _, rfl, n2, 2003, rfl, rfl, ⟨by decide, by decide⟩, _, _, rfl, rfl, n2, _, rfl, rfl, .inl ⟨by omega, by omega⟩, .inl ⟨_, rfl, ?_⟩⟩
        refine ⟨_, _, rfl, rfl, (by show (0 : Int) < 2147483399; decide), _, rfl, _, b, rfl, rfl, hb0, ?_⟩
        obtain ⟨d, hd, ed⟩ := mod_nat (x := (n2 : Int) * ((n2 : Int) / 2003 + 40692) % 2147483399) hb0
        dsimp only
        rw [ed]
        exact q d _ _ hd (.inr ⟨_, _, _, rfl⟩) upd_same (bt.trans But.upd)
end
end Tx
set_option Elab.async false
set_option linter.all false
set_option maxRecDepth 100000
set_option maxHeartbeats 4000000
/-! Lists written out, whose entries are told one by one by words of our own; all that was there stays. -/
namespace Wl
open PySem PySem.Spec PyProof.Rows L2 Cm
theorem PE.weak {X : Cx} {e : Expr} {te te' : TE} (h : PE X e te) (i : ∀ σ H Q, te' σ H Q → te σ H Q) : PE X e te' := ⟨fun pins s σ H Q I g => h.run pins s σ H Q I (i σ H Q g)⟩
theorem PA.weak {X : Cx} {es : List Expr} {t t' : TA} (h : PA X es t) (i : ∀ σ H Q, t' σ H Q → t σ H Q) : PA X es t' := ⟨fun pos pins s σ H Q I g => h.run pos pins s σ H Q I (i σ H Q g)⟩
/-- what is told of a state stays true as the heap grows -/
def Stb (G : L2.St → Hp → Prop) : Prop := ∀ σ H H', Same H H' → G σ H → G σ H'
def StbR {α : Type} (R : Hp → V → α → Prop) : Prop := ∀ H H' v w, Same H H' → R H v w → R H' v w
section
variable {α : Type} {G : L2.St → Hp → Prop} {R : Hp → V → α → Prop}
/-- one value, told by w -/
def tE (G : L2.St → Hp → Prop) (R : Hp → V → α → Prop) (w : α) : TE := fun σ H Q => G σ H ∧ ∀ v H', Same H H' → R H' v w → Q v H'
/-- a row of values -/
def tEs (G : L2.St → Hp → Prop) (R : Hp → V → α → Prop) (ws : List α) : TA := fun σ H Q => G σ H ∧ ∀ xs H', Same H H' → Paired (R H') xs ws → Q xs H'
/-- a list of such -/
def LsAt (R : Hp → V → α → Prop) (H : Hp) (v : V) (ws : List α) : Prop := ∃ l xs, v = .ref l ∧ H l = some (.lst xs) ∧ Paired (R H) xs ws
theorem pd_mono {H H' : Hp} (hR : StbR R) (s : Same H H') : ∀ {xs : List V} {ws : List α}, Paired (R H) xs ws → Paired (R H') xs ws
  | _, _, .nil => .nil
  | _, _, .cons a r => .cons (hR _ _ _ _ s a) (pd_mono hR s r)
theorem stbL (hR : StbR R) : StbR (LsAt R) := fun H H' v ws s ⟨l, xs, e, h, p⟩ => ⟨l, xs, e, s _ _ h, pd_mono hR s p⟩
theorem pd_len {H : Hp} {xs : List V} {ws : List α} (p : Paired (R H) xs ws) : xs.length = ws.length := Paired.length p
theorem pd_app {F : V → α → Prop} : ∀ {xs ys : List V} {ws us : List α}, Paired F xs ws → Paired F ys us → Paired F (xs ++ ys) (ws ++ us)
  | _, _, _, _, .nil, b => b
  | _, _, _, _, .cons a r, b => .cons a (pd_app r b)
variable {X : Cx} {e : Expr} {es : List Expr} {w : α} {ws us : List α} {pos p : Pos}
theorem pa_n (G : L2.St → Hp → Prop) (R : Hp → V → α → Prop) : PA X [] (tEs G R []) := PA.weak pa_nil fun σ H Q h => h.2 [] H (fun _ _ e => e) .nil
theorem pa_c (hG : Stb G) (hR : StbR R) (he : PE X e (tE G R w)) (hr : PA X es (tEs G R ws)) (hs : starEach (e :: es) X.env = (false, eval e X.env) :: starEach es X.env := by rfl) : PA X (e :: es) (tEs G R (w :: ws)) :=
  PA.weak (pa_cons he hr hs) fun σ H Q h => ⟨h.1, fun v H1 s1 r1 => ⟨hG _ _ _ s1 h.1, fun xs H2 s2 r2 => h.2 _ _ (fun b o z => s2 b o (s1 b o z)) (.cons (hR _ _ _ _ s2 r1) r2)⟩⟩
theorem pe_l (hR : StbR R) (hz : ws.length ≤ 1000) (h : PA X es (tEs G R ws)) : PE X (.List es pos) (tE G (LsAt R) ws) :=
  PE.weak (pe_lst h) fun σ H Q g => ⟨g.1, fun xs H1 s1 r1 => ⟨by rw [pd_len r1, sizeLine_eq]; omega, fun l hl => g.2 _ _ (fun b o z => same_new hl b o (s1 b o z)) ⟨l, xs, rfl, upd_same, pd_mono hR (same_new hl) r1⟩⟩⟩
theorem pe_cat {a b : Expr} (hG : Stb G) (hR : StbR R) (hz : ws.length + us.length ≤ 1000) (ha : PE X a (tE G (LsAt R) ws)) (hb : PE X b (tE G (LsAt R) us)) : PE X (.BinOp a .Add b pos) (tE G (LsAt R) (ws ++ us)) :=
  PE.weak (pe_op op_cat ha hb) fun σ H Q g => ⟨g.1, fun v1 H1 s1 r1 => ⟨hG _ _ _ s1 g.1, fun v2 H2 s2 r2 => by
    obtain ⟨l1, xs, e1, h1, p1⟩ := stbL hR _ _ _ _ s2 r1
    obtain ⟨l2, ys, e2, h2, p2⟩ := r2
    refine ⟨l1, l2, xs, ys, e1, e2, h1, h2, by rw [pd_len p1, pd_len p2, sizeLine_eq]; omega, fun l hl => g.2 _ _ (fun b o z => same_new hl b o (s2 b o (s1 b o z))) ⟨l, _, rfl, upd_same, pd_mono hR (same_new hl) (pd_app p1 p2)⟩⟩⟩⟩
/-- the list that stands in the name i -/
def Gn (G : L2.St → Hp → Prop) (R : Hp → V → List α → Prop) (i : Nat) (ws : List α) : L2.St → Hp → Prop := fun σ H => G σ H ∧ ∃ v, σ[i]? = some (some v) ∧ R H v ws
theorem stbG {R : Hp → V → List α → Prop} {i : Nat} (hG : Stb G) (hR : StbR R) : Stb (Gn G R i ws) := fun σ H H' s ⟨g, v, e, r⟩ => ⟨hG _ _ _ s g, v, e, hR _ _ _ _ s r⟩
theorem pe_n {β : Type} {G : L2.St → Hp → Prop} {R : Hp → V → β → Prop} {i : Nat} {w : β} {x : Str} (h : PE X (.Name x p) (tVar i)) (hi : ∀ σ H, G σ H → ∃ v, σ[i]? = some (some v) ∧ R H v w) : PE X (.Name x p) (tE G R w) :=
  PE.weak h fun σ H Q g => by
    obtain ⟨v, e, r⟩ := hi σ H g.1
    exact ⟨v, e, g.2 v H (fun _ _ z => z) r⟩
/-- x = e -/
theorem ho_set {β : Type} {G G' : L2.St → Hp → Prop} {R : Hp → V → β → Prop} {i : Nat} {w : β} {x : Str} {pos' : Pos} (hN : X.N.Nodup) (hi : X.N[i]? = some x) (hx : Loc X.env.scope x) (he : PE X e (tE G R w)) (hg : ∀ σ H v H', G σ H → Same H H' → R H' v w → G' (σ.set i (some v)) H')
    (hs : swapsWith e (some (.Name x pos')) pos.line X.env = pure false := by rfl) (hf : X.fn x = true ∨ X.env.scope.names.lookup x = some .local := by first | exact .inl rfl | exact .inr rfl | assumption) : Ho X (.Assign [.Name x pos'] e pos) G G' :=
  ⟨_, ps_set hN hi hx he hs hf, fun D σ H g q => ⟨g, fun v H' s r => q _ _ (hg σ H v H' g s r)⟩⟩
/-- return e -/
theorem ho_ret {β : Type} {R : Hp → V → β → Prop} {w : β} {r : VK} (he : PE X e (tE G R w)) (hr : ∀ σ H v H', G σ H → Same H H' → R H' v w → r v H') : HoR X [.Return (some e) pos] G r :=
  ⟨_, pss_one (ps_ret he), fun D σ H g q => ⟨g, fun v H' s h => q _ _ (hr σ H v H' g s h)⟩⟩
end
end Wl
set_option Elab.async false
set_option linter.all false
set_option maxRecDepth 100000
set_option maxHeartbeats 4000000
namespace Tx
open PySem PySem.Spec PyProof.Rows L2 Cm ErV Wl
/-- the names of the classes of errors, in the order in which _law_class asks them -/
def clN : List Str := ["AtRoot", "Busy", "Left", "Locked", "Loop", "NoDeed", "NoLine", "NoMount", "NoNumber", "NoRight", "NoSpace", "NoTree", "NotDir", "NotMount", "Shared", "Unbindable", "Unsure", "NoPath", "TooMany", "NoText"]
def pc (word nm : Str) : List Str := if nm == word then [nm] else []
theorem pc_len (word nm : Str) : (pc word nm).length ≤ 1 := by
  unfold pc
  split <;> simp
/-- what is known of the class at D, called word -/
structure Kd (K : PySem.W.Frag) (mg : Str → Option Value) (D : Addr) (word : Str) : Prop where
  ask : ∀ nm ∈ clN, ∃ C, mg nm = some (.ref C) ∧ PySem.W.kitOne K (.ref D) (.ref C) = some (nm == word)
  base : ∃ C, mg "MountError" = some (.ref C) ∧ PySem.W.kitOne K (.ref D) (.ref C) = some true
  ve : PySem.W.kitOne K (.ref D) (.type "ValueError") = some true
  ec : ExcC K D
/-- an error that isinstance can be asked of -/
structure Askd (X : Cx) (a D : Addr) (R : List V → Hp → VK → Prop) (Pe : Hp → Prop) : Prop where
  call : CallR X (.builtin "isinstance") R
  same : ∀ H H', Same H H' → Pe H → Pe H'
  ask : ∀ H (c : V) (cv : Value) (b : Bool) (Q : VK), Pe H → (∀ u, RelV c u → u = cv) → PySem.W.kitOne X.K (.ref D) cv = some b → Q (.bl b) H → R [.ref a, c] H Q
def RS : Hp → V → Str → Prop := fun _ v w => v = .str w
theorem stbS : StbR RS := fun _ _ _ _ _ r => r
section
variable {X : Cx} {a D C : Addr} {R : List V → Hp → VK → Prop} {Pe : Hp → Prop} {G : L2.St → Hp → Prop} {nm word : Str} {p1 p2 p3 p4 p5 p6 p7 p8 p9 : Pos}
/-- [nm] * int(isinstance(e, nm)) -/
theorem pe_piece (A : Askd X a D R Pe) (hG : ∀ σ H, G σ H → σ[0]? = some (some (.ref a)) ∧ Pe H) (hv : PE X (.Name "_law_e" p5) (tVar 0)) (gI : Gl X "int") (gS : Gl X "isinstance") (gC : Gl X nm) (mI : X.mg "int" = none) (mS : X.mg "isinstance" = none) (mC : X.mg nm = some (.ref C))
    (k : PySem.W.kitOne X.K (.ref D) (.ref C) = some (nm == word)) (hd : (nm == ("__debug__" : Str)) = false := by decide) {j} :
    PE X (.BinOp (.List [.Constant (.str nm) j p1] p2) .Mult (.Call (.Name "int" p3) [.Call (.Name "isinstance" p4) [.Name "_law_e" p5, .Name nm p6] [] p7] [] p8) p9) (tE G (LsAt RS) (pc word nm)) :=
  PE.weak (pe_op op_rep (pe_lst (pa_cons pe_str pa_nil)) (pe_callTy call_int1 gI mI (by decide +kernel) (pa_cons (pe_callB A.call gS mS PyProof.Rows.boot_isinstance (pa_cons hv (pa_cons (pe_glob (v := .ref C) gC mC rfl hd) pa_nil))) pa_nil)))
    fun σ H Q g => by
      obtain ⟨e0, hp⟩ := hG σ H g.1
      refine ⟨(by show 1 ≤ sizeLine; rw [sizeLine_eq]; omega), fun l hl => ⟨_, e0, A.ask _ (.ref C) (.ref C) _ _ (A.same _ _ (same_new hl) hp) (fun u r => r) k (.inr ⟨_, rfl, l, _, _, rfl, rfl, upd_same, ?_⟩)⟩⟩
      generalize hb : (nm == word) = b
      cases b
      · refine ⟨by decide, by decide, (by show 1 * 0 ≤ sizeLine; omega), fun p hp2 => g.2 _ _ (fun b o z => same_new hp2 b o (same_new hl b o z)) ⟨p, [], rfl, upd_same, ?_⟩⟩
        unfold pc
        rw [hb]
        exact .nil
      · refine ⟨by decide, by decide, (by show 1 * 1 ≤ sizeLine; rw [sizeLine_eq]; omega), fun p hp2 => g.2 _ _ (fun b o z => same_new hp2 b o (same_new hl b o z)) ⟨p, [.str nm], rfl, upd_same, ?_⟩⟩
        unfold pc
        rw [hb]
        exact .cons rfl .nil
/-- ["none"] * int(..), nothing -/
theorem pe_last (A : Askd X a D R Pe) (hG : ∀ σ H, G σ H → σ[0]? = some (some (.ref a)) ∧ Pe H) {q1 q2 q3 q4 q5 q6 q7 : Pos} (hv : PE X (.Name "_law_e" p5) (tVar 0)) (hv2 : PE X (.Name "_law_e" q5) (tVar 0)) (gI : Gl X "int") (gS : Gl X "isinstance") (gC : Gl X "MountError") (gV : Gl X "ValueError") (mI : X.mg "int" = none) (mS : X.mg "isinstance" = none) (mC : X.mg "MountError" = some (.ref C)) (mV : X.mg "ValueError" = none)
    (k : PySem.W.kitOne X.K (.ref D) (.ref C) = some true) (k2 : PySem.W.kitOne X.K (.ref D) (.type "ValueError") = some true) {j} :
    PE X (.BinOp (.List [.Constant (.str nm) j p1] p2) .Mult (.Call (.Name "int" p3) [.BoolOp .Or [.UnaryOp .Not (.Call (.Name "isinstance" p4) [.Name "_law_e" p5, .Name "MountError" p6] [] p7) q1, .UnaryOp .Not (.Call (.Name "isinstance" q4) [.Name "_law_e" q5, .Name "ValueError" q6] [] q7) q2] q3] [] p8) p9) (tE G (LsAt RS) []) :=
  PE.weak (pe_op op_rep (pe_lst (pa_cons pe_str pa_nil)) (pe_callTy call_int1 gI mI (by decide +kernel) (pa_cons (pe_or (pe_not (pe_callB A.call gS mS PyProof.Rows.boot_isinstance (pa_cons hv (pa_cons (pe_glob (v := .ref C) gC mC rfl) pa_nil))))
      (pe_one (pe_not (pe_callB A.call gS mS PyProof.Rows.boot_isinstance (pa_cons hv2 (pa_cons (pe_bltn (v := .ty "ValueError") gV mV (by decide +kernel) rfl) pa_nil)))))) pa_nil)))
    fun σ H Q g => by
      obtain ⟨e0, hp⟩ := hG σ H g.1
      refine ⟨(by show 1 ≤ sizeLine; rw [sizeLine_eq]; omega), fun l hl => ?_⟩
      have hp1 := A.same _ _ (same_new (o := HO.lst [.str nm]) hl) hp
      refine ⟨_, e0, A.ask _ (.ref C) (.ref C) _ _ hp1 (fun u r => r) k ⟨_, rfl, _, rfl, iteF ⟨_, e0, A.ask _ (.ty "ValueError") (.type "ValueError") _ _ hp1 (fun u r => r) k2 ⟨_, rfl, .inr ⟨_, rfl, l, _, _, rfl, rfl, upd_same, ?_⟩⟩⟩⟩⟩
      exact ⟨by decide, by decide, (by show 1 * 0 ≤ sizeLine; omega), fun p hp2 => g.2 _ _ (fun b o z => same_new hp2 b o (same_new hl b o z)) ⟨p, [], rfl, upd_same, .nil⟩⟩
end
theorem scClass : FnScope ["_law_e", "_law_found"] ["_law_e"] (defScope sClass) := ⟨rfl, rfl, rfl, by decide +kernel, rfl, by decide +kernel, by decide +kernel⟩

def wsAll (word : Str) : List Str := (((((((((((((((((((pc word "AtRoot" ++ pc word "Busy") ++ pc word "Left") ++ pc word "Locked") ++ pc word "Loop") ++ pc word "NoDeed") ++ pc word "NoLine") ++ pc word "NoMount") ++ pc word "NoNumber") ++ pc word "NoRight") ++ pc word "NoSpace") ++ pc word "NoTree") ++ pc word "NotDir") ++ pc word "NotMount") ++ pc word "Shared") ++ pc word "Unbindable") ++ pc word "Unsure") ++ pc word "NoPath") ++ pc word "TooMany") ++ pc word "NoText") ++ []
section
variable {P : Program} {w : World} {K : PySem.W.Frag} {mg : Str → Option Value} {base : Heap} {f : Addr} {cdv : Value} {A : Around} {outer : List Env} {s : Shared} {H0 : Hp} {E : XK} {calm : Bool} {pn : List (Addr × Obj)}
abbrev cxC (P : Program) (w : World) (K : PySem.W.Frag) (mg : Str → Option Value) (base : Heap) (f : Addr) (cdv : Value) (A : Around) (outer : List Env) (s : Shared) (H : Hp) (E : XK) (calm : Bool) (pn : List (Addr × Obj)) : Cx :=
  { cxOf CX0 P w K mg base ["_law_e", "_law_found"] "_law_class" (defScope sClass) f cdv A outer s H E with calm := calm, pn := pn }
def Gc (a : Addr) (Pe : Hp → Prop) (H0 : Hp) : L2.St → Hp → Prop := fun σ H => (∃ x, σ = [some (.ref a), x]) ∧ Pe H ∧ Same H0 H
theorem class_walk {a D : Addr} {word : Str} {R : List V → Hp → VK → Prop} {Pe : Hp → Prop} (Ak : Askd (cxC P w K mg base f cdv A outer s H0 E calm pn) a D R Pe) (kd : Kd K mg D word) (B : Bi mg) (hw : Txt.join Str.empty (wsAll word) = word) (hz : ((wsAll word).map (·.length)).sum ≤ 1000) (Hh : Hp) :
    HoR (cxC P w K mg base f cdv A outer s H0 E calm pn) (defBody sClass) (Gc a Pe Hh) (fun v H' => v = .str word ∧ Same Hh H') := by
  have gs : Stb (Gc a Pe Hh) := fun σ H H' sm ⟨e, p, q⟩ => ⟨e, Ak.same _ _ sm p, fun b o z => sm b o (q b o z)⟩
  have g0 : ∀ σ H, Gc a Pe Hh σ H → σ[0]? = some (some (.ref a)) ∧ Pe H := fun σ H ⟨⟨x, e⟩, p, q⟩ => ⟨by rw [e]; rfl, p⟩
  have gn0 : ∀ ws σ H, Gn (Gc a Pe Hh) (LsAt RS) 1 ws σ H → σ[0]? = some (some (.ref a)) ∧ Pe H := fun ws σ H g => g0 σ H g.1
  have gn1 : ∀ ws σ H, Gn (Gc a Pe Hh) (LsAt RS) 1 ws σ H → ∃ v, σ[1]? = some (some v) ∧ LsAt RS H v ws := fun ws σ H g => g.2
  have sg : ∀ ws, Stb (Gn (Gc a Pe Hh) (LsAt RS) 1 ws) := fun ws => stbG gs (stbL stbS)
  have st0 : ∀ ws σ H v H', Gc a Pe Hh σ H → Same H H' → LsAt RS H' v ws → Gn (Gc a Pe Hh) (LsAt RS) 1 ws (σ.set 1 (some v)) H' := by
    rintro ws σ H v H' ⟨⟨x, rfl⟩, p, q⟩ sm r
    exact ⟨⟨⟨_, rfl⟩, Ak.same _ _ sm p, fun b o z => sm b o (q b o z)⟩, v, rfl, r⟩
  have st1 : ∀ w1 ws σ H v H', Gn (Gc a Pe Hh) (LsAt RS) 1 w1 σ H → Same H H' → LsAt RS H' v ws → Gn (Gc a Pe Hh) (LsAt RS) 1 ws (σ.set 1 (some v)) H' := fun w1 ws σ H v H' g sm r => st0 ws σ H v H' g.1 sm r
  obtain ⟨cB, mB, kB⟩ := kd.base
  obtain ⟨c0, m0, k0⟩ := kd.ask "AtRoot" (by decide +kernel)
  have l0 := pc_len word "AtRoot"
  obtain ⟨c1, m1, k1⟩ := kd.ask "Busy" (by decide +kernel)
  have l1 := pc_len word "Busy"
  obtain ⟨c2, m2, k2⟩ := kd.ask "Left" (by decide +kernel)
  have l2 := pc_len word "Left"
  obtain ⟨c3, m3, k3⟩ := kd.ask "Locked" (by decide +kernel)
  have l3 := pc_len word "Locked"
  obtain ⟨c4, m4, k4⟩ := kd.ask "Loop" (by decide +kernel)
  have l4 := pc_len word "Loop"
  obtain ⟨c5, m5, k5⟩ := kd.ask "NoDeed" (by decide +kernel)
  have l5 := pc_len word "NoDeed"
  obtain ⟨c6, m6, k6⟩ := kd.ask "NoLine" (by decide +kernel)
  have l6 := pc_len word "NoLine"
  obtain ⟨c7, m7, k7⟩ := kd.ask "NoMount" (by decide +kernel)
  have l7 := pc_len word "NoMount"
  obtain ⟨c8, m8, k8⟩ := kd.ask "NoNumber" (by decide +kernel)
  have l8 := pc_len word "NoNumber"
  obtain ⟨c9, m9, k9⟩ := kd.ask "NoRight" (by decide +kernel)
  have l9 := pc_len word "NoRight"
  obtain ⟨c10, m10, k10⟩ := kd.ask "NoSpace" (by decide +kernel)
  have l10 := pc_len word "NoSpace"
  obtain ⟨c11, m11, k11⟩ := kd.ask "NoTree" (by decide +kernel)
  have l11 := pc_len word "NoTree"
  obtain ⟨c12, m12, k12⟩ := kd.ask "NotDir" (by decide +kernel)
  have l12 := pc_len word "NotDir"
  obtain ⟨c13, m13, k13⟩ := kd.ask "NotMount" (by decide +kernel)
  have l13 := pc_len word "NotMount"
  obtain ⟨c14, m14, k14⟩ := kd.ask "Shared" (by decide +kernel)
  have l14 := pc_len word "Shared"
  obtain ⟨c15, m15, k15⟩ := kd.ask "Unbindable" (by decide +kernel)
  have l15 := pc_len word "Unbindable"
  obtain ⟨c16, m16, k16⟩ := kd.ask "Unsure" (by decide +kernel)
  have l16 := pc_len word "Unsure"
  obtain ⟨c17, m17, k17⟩ := kd.ask "NoPath" (by decide +kernel)
  have l17 := pc_len word "NoPath"
  obtain ⟨c18, m18, k18⟩ := kd.ask "TooMany" (by decide +kernel)
  have l18 := pc_len word "TooMany"
  obtain ⟨c19, m19, k19⟩ := kd.ask "NoText" (by decide +kernel)
  have l19 := pc_len word "NoText"
  refine HoR.cons (ho_set scClass.nd rfl (.inl rfl) (pe_cat gs stbS (by omega) (pe_piece Ak g0 (pv 0) (by rfl) (by rfl) (by rfl) B.int B.isin m0 k0) (pe_piece Ak g0 (pv 0) (by rfl) (by rfl) (by rfl) B.int B.isin m1 k1)) (st0 _)) ?_
  refine HoR.cons (ho_set scClass.nd rfl (.inl rfl) (pe_cat (sg _) stbS (by simp only [List.length_append]; omega) (pe_cat (sg _) stbS (by simp only [List.length_append]; omega) (pe_n (pv 1) (gn1 _)) (pe_piece Ak (gn0 _) (pv 0) (by rfl) (by rfl) (by rfl) B.int B.isin m2 k2)) (pe_piece Ak (gn0 _) (pv 0) (by rfl) (by rfl) (by rfl) B.int B.isin m3 k3)) (st1 _ _)) ?_
  refine HoR.cons (ho_set scClass.nd rfl (.inl rfl) (pe_cat (sg _) stbS (by simp only [List.length_append]; omega) (pe_cat (sg _) stbS (by simp only [List.length_append]; omega) (pe_n (pv 1) (gn1 _)) (pe_piece Ak (gn0 _) (pv 0) (by rfl) (by rfl) (by rfl) B.int B.isin m4 k4)) (pe_piece Ak (gn0 _) (pv 0) (by rfl) (by rfl) (by rfl) B.int B.isin m5 k5)) (st1 _ _)) ?_
  refine HoR.cons (ho_set scClass.nd rfl (.inl rfl) (pe_cat (sg _) stbS (by simp only [List.length_append]; omega) (pe_cat (sg _) stbS (by simp only [List.length_append]; omega) (pe_n (pv 1) (gn1 _)) (pe_piece Ak (gn0 _) (pv 0) (by rfl) (by rfl) (by rfl) B.int B.isin m6 k6)) (pe_piece Ak (gn0 _) (pv 0) (by rfl) (by rfl) (by rfl) B.int B.isin m7 k7)) (st1 _ _)) ?_
  refine HoR.cons (ho_set scClass.nd rfl (.inl rfl) (pe_cat (sg _) stbS (by simp only [List.length_append]; omega) (pe_cat (sg _) stbS (by simp only [List.length_append]; omega) (pe_n (pv 1) (gn1 _)) (pe_piece Ak (gn0 _) (pv 0) (by rfl) (by rfl) (by rfl) B.int B.isin m8 k8)) (pe_piece Ak (gn0 _) (pv 0) (by rfl) (by rfl) (by rfl) B.int B.isin m9 k9)) (st1 _ _)) ?_
  refine HoR.cons (ho_set scClass.nd rfl (.inl rfl) (pe_cat (sg _) stbS (by simp only [List.length_append]; omega) (pe_cat (sg _) stbS (by simp only [List.length_append]; omega) (pe_n (pv 1) (gn1 _)) (pe_piece Ak (gn0 _) (pv 0) (by rfl) (by rfl) (by rfl) B.int B.isin m10 k10)) (pe_piece Ak (gn0 _) (pv 0) (by rfl) (by rfl) (by rfl) B.int B.isin m11 k11)) (st1 _ _)) ?_
  refine HoR.cons (ho_set scClass.nd rfl (.inl rfl) (pe_cat (sg _) stbS (by simp only [List.length_append]; omega) (pe_cat (sg _) stbS (by simp only [List.length_append]; omega) (pe_n (pv 1) (gn1 _)) (pe_piece Ak (gn0 _) (pv 0) (by rfl) (by rfl) (by rfl) B.int B.isin m12 k12)) (pe_piece Ak (gn0 _) (pv 0) (by rfl) (by rfl) (by rfl) B.int B.isin m13 k13)) (st1 _ _)) ?_
  refine HoR.cons (ho_set scClass.nd rfl (.inl rfl) (pe_cat (sg _) stbS (by simp only [List.length_append]; omega) (pe_cat (sg _) stbS (by simp only [List.length_append]; omega) (pe_n (pv 1) (gn1 _)) (pe_piece Ak (gn0 _) (pv 0) (by rfl) (by rfl) (by rfl) B.int B.isin m14 k14)) (pe_piece Ak (gn0 _) (pv 0) (by rfl) (by rfl) (by rfl) B.int B.isin m15 k15)) (st1 _ _)) ?_
  refine HoR.cons (ho_set scClass.nd rfl (.inl rfl) (pe_cat (sg _) stbS (by simp only [List.length_append]; omega) (pe_cat (sg _) stbS (by simp only [List.length_append]; omega) (pe_n (pv 1) (gn1 _)) (pe_piece Ak (gn0 _) (pv 0) (by rfl) (by rfl) (by rfl) B.int B.isin m16 k16)) (pe_piece Ak (gn0 _) (pv 0) (by rfl) (by rfl) (by rfl) B.int B.isin m17 k17)) (st1 _ _)) ?_
  refine HoR.cons (ho_set scClass.nd rfl (.inl rfl) (pe_cat (sg _) stbS (by simp only [List.length_append]; omega) (pe_cat (sg _) stbS (by simp only [List.length_append]; omega) (pe_n (pv 1) (gn1 _)) (pe_piece Ak (gn0 _) (pv 0) (by rfl) (by rfl) (by rfl) B.int B.isin m18 k18)) (pe_piece Ak (gn0 _) (pv 0) (by rfl) (by rfl) (by rfl) B.int B.isin m19 k19)) (st1 _ _)) ?_
  refine ⟨_, pss_one (ps_ret (pe_join pe_str (pe_cat (ws := (((((((((((((((((((pc word "AtRoot" ++ pc word "Busy") ++ pc word "Left") ++ pc word "Locked") ++ pc word "Loop") ++ pc word "NoDeed") ++ pc word "NoLine") ++ pc word "NoMount") ++ pc word "NoNumber") ++ pc word "NoRight") ++ pc word "NoSpace") ++ pc word "NoTree") ++ pc word "NotDir") ++ pc word "NotMount") ++ pc word "Shared") ++ pc word "Unbindable") ++ pc word "Unsure") ++ pc word "NoPath") ++ pc word "TooMany") ++ pc word "NoText")) (us := []) (sg (((((((((((((((((((pc word "AtRoot" ++ pc word "Busy") ++ pc word "Left") ++ pc word "Locked") ++ pc word "Loop") ++ pc word "NoDeed") ++ pc word "NoLine") ++ pc word "NoMount") ++ pc word "NoNumber") ++ pc word "NoRight") ++ pc word "NoSpace") ++ pc word "NoTree") ++ pc word "NotDir") ++ pc word "NotMount") ++ pc word "Shared") ++ pc word "Unbindable") ++ pc word "Unsure") ++ pc word "NoPath") ++ pc word "TooMany") ++ pc word "NoText")) stbS (by simp only [List.length_append, List.length_nil]; omega) (pe_n (pv 1) (gn1 _)) (pe_last Ak (gn0 _) (pv 0) (pv 0) (by rfl) (by rfl) (by rfl) (by rfl) B.int B.isin mB B.ve kB kd.ve)))), fun D' σ H g q => ?_⟩
  refine ⟨⟨_, rfl⟩, g, fun v H' sm r => ?_⟩
  obtain ⟨l, xs, rfl, hl, pd⟩ := r
  have e : ∀ {xs : List V} {ws : List Str}, Paired (RS H') xs ws → xs = ws.map V.str := by
    intro xs ws p
    induction p with
    | nil => rfl
    | cons a _ ih =>
      rw [ih, show _ = V.str _ from a]
      rfl
  rw [e pd] at hl
  refine ⟨_, l, _, rfl, rfl, .inl (SqL.of hl), ?_, q _ _ ⟨?_, fun b o z => sm b o (g.1.2.2 b o z)⟩⟩
  · show (List.map _ (wsAll word)).sum + (wsAll word).length * 0 ≤ 16777216
    omega
  · exact congrArg V.str hw
end
end Tx
set_option Elab.async false
set_option linter.all false
set_option maxRecDepth 100000
set_option maxHeartbeats 4000000
namespace Tx
open PySem PySem.Spec PyProof.Rows L2 Cm ErV Wl
/-! ### errors that are held -/
def Wd (w : Str) : Prop := Txt.join Str.empty (wsAll w) = w ∧ ((wsAll w).map (·.length)).sum ≤ 1000
/-- an error of the class called w stands at v -/
def ErAt (K : PySem.W.Frag) (mg : Str → Option Value) : Hp → V → Str → Prop := fun H v w => ∃ a D, v = .ref a ∧ Kd K mg D w ∧ Wd w ∧ (H a = some (ExO (.ref D) a) ∨ ∃ dx fs, H a = some (exo a D (some dx)) ∧ H dx = some (exd dx fs))
theorem stbE {K : PySem.W.Frag} {mg : Str → Option Value} : StbR (ErAt K mg) := fun H H' v w s ⟨a, D, e, k, d, h⟩ => ⟨a, D, e, k, d, h.elim (fun z => .inl (s _ _ z)) fun ⟨dx, fs, z, y⟩ => .inr ⟨dx, fs, s _ _ z, s _ _ y⟩⟩
def PrAt (K : PySem.W.Frag) (mg : Str → Option Value) : Hp → V → Str → Prop := fun H v w => ∃ p x, v = .ref p ∧ H p = some (.tup [x, .str w]) ∧ ErAt K mg H x w
theorem stbP {K : PySem.W.Frag} {mg : Str → Option Value} : StbR (PrAt K mg) := fun H H' v w s ⟨p, x, e, h, r⟩ => ⟨p, x, e, s _ _ h, stbE _ _ _ _ s r⟩
/-- a class of errors without own __init__ -/
def ErC (K : PySem.W.Frag) (mg : Str → Option Value) (nm : Str) : Prop := ∃ D, mg nm = some (.ref D) ∧ PySem.W.excIn K D [.type "ValueError", .type "Exception", .type "BaseException", .type "object"] "ValueError.__new__" = true ∧ PySem.W.keepIn K (.ref D) = true ∧ Kd K mg D nm
def plN : List Str := ["AtRoot", "Busy", "Left", "Locked", "Loop", "NoDeed", "NoLine", "NoMount", "NoNumber", "NoRight", "NoSpace", "NoTree", "NotDir", "NotMount", "Shared", "Unsure", "Unbindable"]
section
variable {X : Cx} {G : L2.St → Hp → Prop} {nm : Str} {e : Expr} {p p1 p2 p3 : Pos}
theorem pe_bare (c : ErC X.K X.mg nm) (wd : Wd nm) (hg : Gl X nm) (hdb : (nm == ("__debug__" : Str)) = false := by decide) : PE X (.Call (.Name nm p) [] [] p1) (tE G (ErAt X.K X.mg) nm) := by
  obtain ⟨D, m, x, k, kd⟩ := c
  exact PE.weak (pe_exc0 PySem.F.excBase_ValueError x m k hg hdb) fun σ H Q g a ha => g.2 _ _ (same_new ha) ⟨a, D, rfl, kd, wd, .inl upd_same⟩
theorem pe_pair (c : ErC X.K X.mg nm) (wd : Wd nm) (hg : Gl X nm) {i : Nat} {v : V} (hi : ∀ σ H, G σ H → σ[i]? = some (some v)) (he : PE X e (tVar i)) (hs : starEach [e] X.env = (false, eval e X.env) :: starEach [] X.env := by rfl) (hdb : (nm == ("__debug__" : Str)) = false := by decide) {j k} :
    PE X (.Tuple [.Call (.Name nm p) [e] [] p1, .Constant (.str nm) j p2] k p3) (tE G (PrAt X.K X.mg) nm) := by
  obtain ⟨D, m, x, kp, kd⟩ := c
  exact PE.weak (pe_tup (pa_cons (pe_exc1 PySem.F.excBase_ValueError x m kp hg he hs hdb) (pa_cons pe_str pa_nil)))
    fun σ H Q g => ⟨v, hi σ H g.1, fun a ha => ⟨(by show 2 ≤ sizeLine; rw [sizeLine_eq]; omega), fun q hq => g.2 _ _ (fun b o z => same_new hq b o (same_new ha b o z)) ⟨q, .ref a, rfl, upd_same, a, D, rfl, kd, wd, .inl (by rw [upd_ne (ne_of_none upd_same hq)]; exact upd_same)⟩⟩⟩
end
theorem scPlain : FnScope ["_law_said", "_law_some"] ["_law_said"] (defScope sPlain) := ⟨rfl, rfl, rfl, by decide +kernel, rfl, by decide +kernel, by decide +kernel⟩
theorem scBare : FnScope ["_law_some"] [] (defScope sBare) := ⟨rfl, rfl, rfl, by decide +kernel, rfl, by decide +kernel, by decide +kernel⟩
def spPlain (K : PySem.W.Frag) (mg : Str → Option Value) : Sp := fun vs H Q _ => ∃ v, vs = [v] ∧ ∀ u H', Same H H' → LsAt (PrAt K mg) H' u plN → Q u H'
def spBare (K : PySem.W.Frag) (mg : Str → Option Value) : Sp := fun vs H Q _ => vs = [] ∧ ∀ u H', Same H H' → LsAt (ErAt K mg) H' u plN → Q u H'
def G1 (v : V) (H0 : Hp) : L2.St → Hp → Prop := fun σ H => (∃ x, σ = [some v, x]) ∧ Same H0 H
def G0 (H0 : Hp) : L2.St → Hp → Prop := fun σ H => (∃ x, σ = [x]) ∧ Same H0 H

theorem wd_AtRoot : Wd "AtRoot" := ⟨by decide +kernel, by decide +kernel⟩
theorem wd_Busy : Wd "Busy" := ⟨by decide +kernel, by decide +kernel⟩
theorem wd_Left : Wd "Left" := ⟨by decide +kernel, by decide +kernel⟩
theorem wd_Locked : Wd "Locked" := ⟨by decide +kernel, by decide +kernel⟩
theorem wd_Loop : Wd "Loop" := ⟨by decide +kernel, by decide +kernel⟩
theorem wd_NoDeed : Wd "NoDeed" := ⟨by decide +kernel, by decide +kernel⟩
theorem wd_NoLine : Wd "NoLine" := ⟨by decide +kernel, by decide +kernel⟩
theorem wd_NoMount : Wd "NoMount" := ⟨by decide +kernel, by decide +kernel⟩
theorem wd_NoNumber : Wd "NoNumber" := ⟨by decide +kernel, by decide +kernel⟩
theorem wd_NoRight : Wd "NoRight" := ⟨by decide +kernel, by decide +kernel⟩
theorem wd_NoSpace : Wd "NoSpace" := ⟨by decide +kernel, by decide +kernel⟩
theorem wd_NoTree : Wd "NoTree" := ⟨by decide +kernel, by decide +kernel⟩
theorem wd_NotDir : Wd "NotDir" := ⟨by decide +kernel, by decide +kernel⟩
theorem wd_NotMount : Wd "NotMount" := ⟨by decide +kernel, by decide +kernel⟩
theorem wd_Shared : Wd "Shared" := ⟨by decide +kernel, by decide +kernel⟩
theorem wd_Unsure : Wd "Unsure" := ⟨by decide +kernel, by decide +kernel⟩
theorem wd_Unbindable : Wd "Unbindable" := ⟨by decide +kernel, by decide +kernel⟩
section
variable {P : Program} {w : World} {K : PySem.W.Frag} {mg : Str → Option Value} {base : Heap}
theorem ok_plain {f : Addr} {fd : FuncData} {k : Nat} (F : Fun K "_law_plain" "_law_plain" sPlain f fd) (hc : ∀ nm ∈ plN, ErC K mg nm) : FnOk P w K mg base CX0 (k + 1) f fd ["_law_said"] (spPlain K mg) := by
  refine F.ok scPlain (fun vs H Q E h => ?_) (fun cdv A outer s H vs Q E hr h => ?_)
  · obtain ⟨v, rfl, _⟩ := h
    rfl
  · obtain ⟨v, rfl, q⟩ := h
    have gs : Stb (G1 v H) := fun σ H1 H2 sm ⟨e, z⟩ => ⟨e, fun b o y => sm b o (z b o y)⟩
    have sg : ∀ ws, Stb (Gn (G1 v H) (LsAt (PrAt K mg)) 1 ws) := fun ws => stbG gs (stbL stbP)
    have g0 : ∀ σ H1, G1 v H σ H1 → σ[0]? = some (some v) := fun σ H1 ⟨⟨x, e⟩, _⟩ => by rw [e]; rfl
    have gn0 : ∀ ws σ H1, Gn (G1 v H) (LsAt (PrAt K mg)) 1 ws σ H1 → σ[0]? = some (some v) := fun ws σ H1 g => g0 σ H1 g.1
    have gn1 : ∀ ws σ H1, Gn (G1 v H) (LsAt (PrAt K mg)) 1 ws σ H1 → ∃ u, σ[1]? = some (some u) ∧ LsAt (PrAt K mg) H1 u ws := fun ws σ H1 g => g.2
    have st0 : ∀ ws σ H1 u H', G1 v H σ H1 → Same H1 H' → LsAt (PrAt K mg) H' u ws → Gn (G1 v H) (LsAt (PrAt K mg)) 1 ws (σ.set 1 (some u)) H' := by
      rintro ws σ H1 u H' ⟨⟨x, rfl⟩, z⟩ sm r
      exact ⟨⟨⟨_, rfl⟩, fun b o y => sm b o (z b o y)⟩, u, rfl, r⟩
    have st1 : ∀ w1 ws σ H1 u H', Gn (G1 v H) (LsAt (PrAt K mg)) 1 w1 σ H1 → Same H1 H' → LsAt (PrAt K mg) H' u ws → Gn (G1 v H) (LsAt (PrAt K mg)) 1 ws (σ.set 1 (some u)) H' := fun w1 ws σ H1 u H' g sm r => st0 ws σ H1 u H' g.1 sm r
    have c0 := hc "AtRoot" (by decide +kernel)
    have c1 := hc "Busy" (by decide +kernel)
    have c2 := hc "Left" (by decide +kernel)
    have c3 := hc "Locked" (by decide +kernel)
    have c4 := hc "Loop" (by decide +kernel)
    have c5 := hc "NoDeed" (by decide +kernel)
    have c6 := hc "NoLine" (by decide +kernel)
    have c7 := hc "NoMount" (by decide +kernel)
    have c8 := hc "NoNumber" (by decide +kernel)
    have c9 := hc "NoRight" (by decide +kernel)
    have c10 := hc "NoSpace" (by decide +kernel)
    have c11 := hc "NoTree" (by decide +kernel)
    have c12 := hc "NotDir" (by decide +kernel)
    have c13 := hc "NotMount" (by decide +kernel)
    have c14 := hc "Shared" (by decide +kernel)
    have c15 := hc "Unsure" (by decide +kernel)
    have c16 := hc "Unbindable" (by decide +kernel)
    obtain ⟨t, ht, hq⟩ : HoR (cxOf CX0 P w K mg base ["_law_said", "_law_some"] "_law_plain" (defScope sPlain) f cdv A outer s H E).nox (defBody sPlain) (G1 v H) (fun u H' => Same H H' ∧ LsAt (PrAt K mg) H' u plN) := by
      refine HoR.cons (ho_set scPlain.nd rfl (.inl rfl) (pe_l stbP (by decide) (pa_c gs stbP (pe_pair c0 wd_AtRoot (by rfl) g0 (pv 0)) (pa_c gs stbP (pe_pair c1 wd_Busy (by rfl) g0 (pv 0)) (pa_c gs stbP (pe_pair c2 wd_Left (by rfl) g0 (pv 0)) (pa_c gs stbP (pe_pair c3 wd_Locked (by rfl) g0 (pv 0)) (pa_n _ _)))))) (st0 _)) ?_
      refine HoR.cons (ho_set scPlain.nd rfl (.inl rfl) (pe_cat (sg _) stbP (by decide) (pe_n (pv 1) (gn1 _)) (pe_l stbP (by decide) (pa_c (sg _) stbP (pe_pair c4 wd_Loop (by rfl) (gn0 _) (pv 0)) (pa_c (sg _) stbP (pe_pair c5 wd_NoDeed (by rfl) (gn0 _) (pv 0)) (pa_c (sg _) stbP (pe_pair c6 wd_NoLine (by rfl) (gn0 _) (pv 0)) (pa_n _ _)))))) (st1 _ _)) ?_
      refine HoR.cons (ho_set scPlain.nd rfl (.inl rfl) (pe_cat (sg _) stbP (by decide) (pe_n (pv 1) (gn1 _)) (pe_l stbP (by decide) (pa_c (sg _) stbP (pe_pair c7 wd_NoMount (by rfl) (gn0 _) (pv 0)) (pa_c (sg _) stbP (pe_pair c8 wd_NoNumber (by rfl) (gn0 _) (pv 0)) (pa_c (sg _) stbP (pe_pair c9 wd_NoRight (by rfl) (gn0 _) (pv 0)) (pa_n _ _)))))) (st1 _ _)) ?_
      refine HoR.cons (ho_set scPlain.nd rfl (.inl rfl) (pe_cat (sg _) stbP (by decide) (pe_n (pv 1) (gn1 _)) (pe_l stbP (by decide) (pa_c (sg _) stbP (pe_pair c10 wd_NoSpace (by rfl) (gn0 _) (pv 0)) (pa_c (sg _) stbP (pe_pair c11 wd_NoTree (by rfl) (gn0 _) (pv 0)) (pa_c (sg _) stbP (pe_pair c12 wd_NotDir (by rfl) (gn0 _) (pv 0)) (pa_n _ _)))))) (st1 _ _)) ?_
      refine HoR.cons (ho_set scPlain.nd rfl (.inl rfl) (pe_cat (sg _) stbP (by decide) (pe_n (pv 1) (gn1 _)) (pe_l stbP (by decide) (pa_c (sg _) stbP (pe_pair c13 wd_NotMount (by rfl) (gn0 _) (pv 0)) (pa_c (sg _) stbP (pe_pair c14 wd_Shared (by rfl) (gn0 _) (pv 0)) (pa_c (sg _) stbP (pe_pair c15 wd_Unsure (by rfl) (gn0 _) (pv 0)) (pa_n _ _)))))) (st1 _ _)) ?_
      exact ho_ret (pe_cat (sg _) stbP (by decide) (pe_n (pv 1) (gn1 _)) (pe_l stbP (by decide) (pa_c (sg _) stbP (pe_pair c16 wd_Unbindable (by rfl) (gn0 _) (pv 0)) (pa_n _ _)))) fun σ H1 u H' g sm r => ⟨fun b o y => sm b o (g.1.2 b o y), r⟩
    exact ⟨t, ht, hq _ _ _ ⟨⟨_, rfl⟩, fun _ _ z => z⟩ fun u H' z => q u H' z.1 z.2⟩
theorem ok_bare {f : Addr} {fd : FuncData} {k : Nat} (F : Fun K "_law_bare" "_law_bare" sBare f fd) (hc : ∀ nm ∈ plN, ErC K mg nm) : FnOk P w K mg base CX0 (k + 1) f fd [] (spBare K mg) := by
  refine F.ok scBare (fun vs H Q E h => ?_) (fun cdv A outer s H vs Q E hr h => ?_)
  · obtain ⟨rfl, _⟩ := h
    rfl
  · obtain ⟨rfl, q⟩ := h
    have gs : Stb (G0 H) := fun σ H1 H2 sm ⟨e, z⟩ => ⟨e, fun b o y => sm b o (z b o y)⟩
    have sg : ∀ ws, Stb (Gn (G0 H) (LsAt (ErAt K mg)) 0 ws) := fun ws => stbG gs (stbL stbE)
    have gn1 : ∀ ws σ H1, Gn (G0 H) (LsAt (ErAt K mg)) 0 ws σ H1 → ∃ u, σ[0]? = some (some u) ∧ LsAt (ErAt K mg) H1 u ws := fun ws σ H1 g => g.2
    have st0 : ∀ ws σ H1 u H', G0 H σ H1 → Same H1 H' → LsAt (ErAt K mg) H' u ws → Gn (G0 H) (LsAt (ErAt K mg)) 0 ws (σ.set 0 (some u)) H' := by
      rintro ws σ H1 u H' ⟨⟨x, rfl⟩, z⟩ sm r
      exact ⟨⟨⟨_, rfl⟩, fun b o y => sm b o (z b o y)⟩, u, rfl, r⟩
    have c0 := hc "AtRoot" (by decide +kernel)
    have c1 := hc "Busy" (by decide +kernel)
    have c2 := hc "Left" (by decide +kernel)
    have c3 := hc "Locked" (by decide +kernel)
    have c4 := hc "Loop" (by decide +kernel)
    have c5 := hc "NoDeed" (by decide +kernel)
    have c6 := hc "NoLine" (by decide +kernel)
    have c7 := hc "NoMount" (by decide +kernel)
    have c8 := hc "NoNumber" (by decide +kernel)
    have c9 := hc "NoRight" (by decide +kernel)
    have c10 := hc "NoSpace" (by decide +kernel)
    have c11 := hc "NoTree" (by decide +kernel)
    have c12 := hc "NotDir" (by decide +kernel)
    have c13 := hc "NotMount" (by decide +kernel)
    have c14 := hc "Shared" (by decide +kernel)
    have c15 := hc "Unsure" (by decide +kernel)
    have c16 := hc "Unbindable" (by decide +kernel)
    obtain ⟨t, ht, hq⟩ : HoR (cxOf CX0 P w K mg base ["_law_some"] "_law_bare" (defScope sBare) f cdv A outer s H E).nox (defBody sBare) (G0 H) (fun u H' => Same H H' ∧ LsAt (ErAt K mg) H' u plN) := by
      refine HoR.cons (ho_set scBare.nd rfl (.inl rfl) (pe_l stbE (by decide) (pa_c gs stbE (pe_bare c0 wd_AtRoot (by rfl)) (pa_c gs stbE (pe_bare c1 wd_Busy (by rfl)) (pa_c gs stbE (pe_bare c2 wd_Left (by rfl)) (pa_c gs stbE (pe_bare c3 wd_Locked (by rfl)) (pa_c gs stbE (pe_bare c4 wd_Loop (by rfl)) (pa_c gs stbE (pe_bare c5 wd_NoDeed (by rfl)) (pa_c gs stbE (pe_bare c6 wd_NoLine (by rfl)) (pa_c gs stbE (pe_bare c7 wd_NoMount (by rfl)) (pa_c gs stbE (pe_bare c8 wd_NoNumber (by rfl)) (pa_c gs stbE (pe_bare c9 wd_NoRight (by rfl)) (pa_n _ _)))))))))))) (st0 _)) ?_
      exact ho_ret (pe_cat (sg _) stbE (by decide) (pe_n (pv 0) (gn1 _)) (pe_l stbE (by decide) (pa_c (sg _) stbE (pe_bare c10 wd_NoSpace (by rfl)) (pa_c (sg _) stbE (pe_bare c11 wd_NoTree (by rfl)) (pa_c (sg _) stbE (pe_bare c12 wd_NotDir (by rfl)) (pa_c (sg _) stbE (pe_bare c13 wd_NotMount (by rfl)) (pa_c (sg _) stbE (pe_bare c14 wd_Shared (by rfl)) (pa_c (sg _) stbE (pe_bare c15 wd_Unsure (by rfl)) (pa_c (sg _) stbE (pe_bare c16 wd_Unbindable (by rfl)) (pa_n _ _)))))))))) fun σ H1 u H' g sm r => ⟨fun b o y => sm b o (g.1.2 b o y), r⟩
    exact ⟨t, ht, hq _ _ _ ⟨⟨_, rfl⟩, fun _ _ z => z⟩ fun u H' z => q u H' z.1 z.2⟩
/-! ### the three __init__ -/
/-- MountError, whose __init__ is called -/
structure Me (K : PySem.W.Frag) (mg : Str → Option Value) (CM : Addr) : Prop where
  at_ : mg "MountError" = some (.ref CM)
  sg : PySem.W.specialIn K (.ref CM) "__getattribute__" = some (some (.builtin "type.__getattribute__"))
  rd : PySem.W.readsIn K CM (.type "type") = true
  vV : PySem.W.findCls K (.ref CM) (.type "type") "__init__" = some (.val (.builtin "ValueError.__init__"))
def spXi (K : PySem.W.Frag) (f : Str) : Sp := fun vs H Q _ => ∃ (a C : Addr) (y : V), vs = [.ref a, y] ∧ OexC K C ∧ PySem.W.findIn K (.ref C) f = some none ∧ H a = some (exo a C none) ∧ ∀ dx, H dx = none → dx ≠ a → Q .non (upd (upd H dx (exd dx [(f, y)])) a (exo a C (some dx)))
theorem scNoPath : FnScope ["self", "at"] ["self", "at"] (defScope sPathI) := ⟨rfl, rfl, rfl, by decide +kernel, rfl, by decide +kernel, by decide +kernel⟩
theorem ok_NoPath {f : Addr} {fd : FuncData} {k : Nat} {CM : Addr} (F : Fun K "__init__" "NoPath.__init__" sPathI f fd) (M : Me K mg CM) : FnOk P w K mg base CX0 (k + 1) f fd ["self", "at"] (spXi K "at") := by
  refine F.ok scNoPath (fun vs H Q E h => ?_) (fun cdv A outer s H vs Q E hr h => ?_)
  · obtain ⟨a, C, y, rfl, _⟩ := h
    rfl
  · obtain ⟨a, C, y, rfl, T, hno, ha, q⟩ := h
    refine ⟨_, pss_cons (ps_expr (pe_cinit (by rfl) M.at_ M.sg M.rd M.vV (pa_cons (pv 0) (pa_cons pe_str pa_nil)))) (pss_one (ps_ost (pv 0) (pv 1))), ?_⟩
    exact ⟨_, rfl, a, C, _, rfl, (by show 1 ≤ 1000; decide), T, ha, _, rfl, _, rfl, a, C, rfl, T, hno, .inl ⟨ha, fun dx hd ne => q dx hd ne⟩⟩
theorem scTooMany : FnScope ["self", "many"] ["self", "many"] (defScope sManyI) := ⟨rfl, rfl, rfl, by decide +kernel, rfl, by decide +kernel, by decide +kernel⟩
theorem ok_TooMany {f : Addr} {fd : FuncData} {k : Nat} {CM : Addr} (F : Fun K "__init__" "TooMany.__init__" sManyI f fd) (M : Me K mg CM) : FnOk P w K mg base CX0 (k + 1) f fd ["self", "many"] (spXi K "many") := by
  refine F.ok scTooMany (fun vs H Q E h => ?_) (fun cdv A outer s H vs Q E hr h => ?_)
  · obtain ⟨a, C, y, rfl, _⟩ := h
    rfl
  · obtain ⟨a, C, y, rfl, T, hno, ha, q⟩ := h
    refine ⟨_, pss_cons (ps_expr (pe_cinit (by rfl) M.at_ M.sg M.rd M.vV (pa_cons (pv 0) (pa_cons pe_str pa_nil)))) (pss_one (ps_ost (pv 0) (pv 1))), ?_⟩
    exact ⟨_, rfl, a, C, _, rfl, (by show 1 ≤ 1000; decide), T, ha, _, rfl, _, rfl, a, C, rfl, T, hno, .inl ⟨ha, fun dx hd ne => q dx hd ne⟩⟩
theorem scNoText : FnScope ["self", "line"] ["self", "line"] (defScope sTextI) := ⟨rfl, rfl, rfl, by decide +kernel, rfl, by decide +kernel, by decide +kernel⟩
theorem ok_NoText {f : Addr} {fd : FuncData} {k : Nat} {CM : Addr} (F : FunD K "__init__" "NoText.__init__" (defArgs sTextI) (defBody sTextI) (defScope sTextI) [.non] [] f fd) (M : Me K mg CM) : FnOk P w K mg base CX0 (k + 1) f fd ["self", "line"] (spXi K "line") := by
  refine F.ok scNoText (fun vs H Q E h => ?_) (fun cdv A outer s H vs Q E hr h => ?_)
  · obtain ⟨a, C, y, rfl, _⟩ := h
    rfl
  · obtain ⟨a, C, y, rfl, T, hno, ha, q⟩ := h
    refine ⟨_, pss_cons (ps_expr (pe_cinit (by rfl) M.at_ M.sg M.rd M.vV (pa_cons (pv 0) (pa_cons pe_str pa_nil)))) (pss_one (ps_ost (pv 0) (pv 1))), ?_⟩
    exact ⟨_, rfl, a, C, _, rfl, (by show 1 ≤ 1000; decide), T, ha, _, rfl, _, rfl, a, C, rfl, T, hno, .inl ⟨ha, fun dx hd ne => q dx hd ne⟩⟩
end
end Tx
set_option Elab.async false
set_option linter.all false
set_option maxRecDepth 100000
set_option maxHeartbeats 4000000
namespace Tx
open PySem PySem.Spec PyProof.Rows L2 Cm ErV Wl
/-- _law_class -/
def spClass (K : PySem.W.Frag) (mg : Str → Option Value) : Sp := fun vs H Q _ => ∃ v w, vs = [v] ∧ ErAt K mg H v w ∧ ∀ H', Same H H' → Q (.str w) H'
section
variable {P : Program} {w : World} {K : PySem.W.Frag} {mg : Str → Option Value} {base : Heap}
theorem ok_class {f : Addr} {fd : FuncData} {k : Nat} (F : Fun K "_law_class" "_law_class" sClass f fd) (B : Bi mg) : FnOk P w K mg base CX0 (k + 1) f fd ["_law_e"] (spClass K mg) := by
  obtain ⟨oc, od, kV, doc, pm, an, cdv, ct, osl, rfl, lk, hcd⟩ := F.ex
  refine fn_of lk hcd scClass (fun vs H Q E h => ?_) fun A outer s H vs Q E hr h => ?_
  · obtain ⟨v, w, rfl, _⟩ := h
    rfl
  · obtain ⟨v, wd, rfl, ⟨a, D, rfl, kd, ⟨w1, w2⟩, hh⟩, q⟩ := h
    rcases hh with ha | ⟨dx, fs, ha, hd⟩
    · have Ak : Askd (cxC P w K mg base f cdv A outer s H E true []) a D (rIsX K) (fun H => H a = some (ExO (.ref D) a)) := ⟨call_isX, fun H H' s h => s _ _ h, fun H c cv b Q h hc k q => ⟨a, D, c, cv, b, rfl, h, kd.ec, hc, k, q⟩⟩
      obtain ⟨t, ht, hq⟩ := class_walk Ak kd B w1 w2 H
      exact ⟨t, ht, hq _ _ _ ⟨⟨_, rfl⟩, ha, fun _ _ z => z⟩ fun v H' z => by
        obtain ⟨rfl, s⟩ := z
        exact q H' s⟩
    · have Ak : Askd (cxC P w K mg base f cdv A outer s H E true []) a D (rIsO K) (fun H => H a = some (exo a D (some dx)) ∧ H dx = some (exd dx fs)) := ⟨call_isO, fun H H' s h => ⟨s _ _ h.1, s _ _ h.2⟩, fun H c cv b Q h hc k q => ⟨a, D, dx, fs, c, cv, b, rfl, h.1, h.2, kd.ec, hc, k, q⟩⟩
      obtain ⟨t, ht, hq⟩ := class_walk Ak kd B w1 w2 H
      exact ⟨t, ht, hq _ _ _ ⟨⟨_, rfl⟩, ⟨ha, hd⟩, fun _ _ z => z⟩ fun v H' z => by
        obtain ⟨rfl, s⟩ := z
        exact q H' s⟩
end
/-- _law_class(e), e the exception that is handled -/
def tHot (K : PySem.W.Frag) (mg : Str → Option Value) (i : Nat) (a : Addr) (cls : Value) (d : Option Addr) : TE := fun σ H Q => σ[i]? = some (some (.ref a)) ∧ ∃ Dc word, cls = .ref Dc ∧ Kd K mg Dc word ∧ Wd word ∧ (d = none ∨ ∃ dd fs, d = some dd ∧ H dd = some (.xd fs)) ∧ ∀ H', Same H H' → Q (.str word) H'
theorem pe_classH {X : Cx} {a f : Addr} {oe : Obj} {cls : Value} {d : Option Addr} {pn : List (Addr × Obj)} {fd : FuncData} {e : Expr} {i : Nat} {q pos : Pos} {k : Nat} (hz : Zc cls d oe) (hf : ∃ vs, oe.data = .fields vs) (F : Fun X.K "_law_class" "_law_class" sClass f fd) (B : Bi X.mg) (hr : L2H.RoomH (k + 1) (X.suite a ((a, oe) :: pn)).A)
    (hg : Gl (X.suite a ((a, oe) :: pn)) "_law_class") (hm : X.mg "_law_class" = some (.ref f)) (hb : Binds X.K fd ["_law_e"] []) (he : PE (X.suite a ((a, oe) :: pn)) e (tVar i)) (hs : starEach [e] X.env = (false, eval e X.env) :: starEach [] X.env := by rfl) :
    PE (X.suite a ((a, oe) :: pn)) (.Call (.Name "_law_class" q) [e] [] pos) (tHot X.K X.mg i a cls d) := by
  obtain ⟨oc, od, kV, doc, pm, an, cdv, ct, osl, rfl, lk, hcd⟩ := F.ex
  constructor
  intro pins s σ H Q I h
  obtain ⟨ei, Dc, word, rfl, kd, ⟨w1, w2⟩, hd, hq⟩ := h
  have hp : (a, oe) ∈ (X.suite a ((a, oe) :: pn)).pn := List.mem_cons_self
  rcases hd with rfl | ⟨dd, fs, rfl, hdd⟩
  · refine (pe_hot (X := X.suite a ((a, oe) :: pn)) hp lk hcd scClass hr hg hm F.kp hb (fun H1 Q1 => ∀ H', Same H1 H' → Q1 (.str word) H') (fun A outer s H1 Q1 E hr1 q1 => ?_) he (by decide) hs).run pins s σ H Q I ⟨_, ei, rfl, hq⟩
    have Ak : Askd (cxC X.prog X.w X.K X.mg X.base f cdv A outer s H1 E false [(a, oe)]) a Dc (rIsE X.K Dc a) (fun _ => True) := ⟨call_isP (d := none) List.mem_cons_self kd.ec hz hf, fun _ _ _ _ => trivial, fun H c cv b Q h hc k q => ⟨c, cv, b, rfl, hc, k, q⟩⟩
    obtain ⟨t, ht, hq⟩ := class_walk Ak kd B w1 w2 H1
    exact ⟨t, ht, hq _ _ _ ⟨⟨_, rfl⟩, trivial, fun _ _ z => z⟩ fun v H' z => by
      obtain ⟨rfl, s⟩ := z
      exact q1 H' s⟩
  · refine (pe_hot (X := X.suite a ((a, oe) :: pn)) hp lk hcd scClass hr hg hm F.kp hb (fun H1 Q1 => (∃ fs, H1 dd = some (.xd fs)) ∧ ∀ H', Same H1 H' → Q1 (.str word) H') (fun A outer s H1 Q1 E hr1 q1 => ?_) he (by decide) hs).run pins s σ H Q I ⟨_, ei, rfl, ⟨fs, hdd⟩, hq⟩
    have Ak : Askd (cxC X.prog X.w X.K X.mg X.base f cdv A outer s H1 E false [(a, oe)]) a Dc (rIsPd X.K Dc a dd) (fun H => ∃ fs, H dd = some (.xd fs)) := ⟨call_isPd List.mem_cons_self kd.ec hz hf, fun _ _ s ⟨g, z⟩ => ⟨g, s _ _ z⟩, fun H c cv b Q ⟨g, z⟩ hc k q => ⟨g, c, cv, b, rfl, z, hc, k, q⟩⟩
    obtain ⟨t, ht, hq⟩ := class_walk Ak kd B w1 w2 H1
    exact ⟨t, ht, hq _ _ _ ⟨⟨_, rfl⟩, q1.1, fun _ _ z => z⟩ fun v H' z => by
      obtain ⟨rfl, s⟩ := z
      exact q1.2 H' s⟩
/-! ### _law_is_met -/
theorem rmH {A : Around} {h : Option Value} (r : Room 2 A) : L2H.RoomH 1 (A.mark h) := (show L2H.RoomH 2 (A.mark h) from ⟨r.dp, r.un⟩).mono (by decide)
theorem scMet : FnScope ["_law_said", "_law_met", "_law_e"] ["_law_said"] (defScope sMet) := ⟨rfl, rfl, rfl, by decide +kernel, rfl, by decide +kernel, by decide +kernel⟩
def spMet : Sp := fun vs H Q _ => ∃ v, vs = [v] ∧ ∀ H', Same H H' → Q (.bl true) H'
/-- a class of errors, raised and caught -/
structure Rz (K : PySem.W.Frag) (C CM : Addr) : Prop where
  b : PySem.W.subIn K (.ref C) (.type "BaseException") = some true
  t : PySem.W.typeIn K (.ref C) = some (.type "type")
  m : PySem.W.exmOne K (.ref C) (.ref CM) = some true
/-- a class of errors with an own __init__ that keeps one field -/
structure Ox (P : Program) (w : World) (K : PySem.W.Frag) (mg : Str → Option Value) (base : Heap) (nm f : Str) (C fI : Addr) (fd : FuncData) : Prop where
  at_ : mg nm = some (.ref C)
  T : OexC K C
  x : XfC K C
  no : PySem.W.findIn K (.ref C) f = some none
  iC : PySem.W.findIn K (.ref C) "__init__" = some (some (.ref fI))
  tI : PySem.W.typeIn K (.ref fI) = some (.type "function")
  ok : FnOk P w K mg base CX0 1 fI fd ["self", f] (spXi K f)
  kd : Kd K mg C nm
  b1 : Binds K fd ["self", f] []
  bk : ∀ (s : Shared) (a v : Value), K.In s.heap → BindsTo s fd ⟨[a], [(f, v)]⟩ ((["self", f] : List Str).zip [a, v])
section
variable {P : Program} {w : World} {K : PySem.W.Frag} {mg : Str → Option Value} {base : Heap}
theorem ok_met {f fC CM CT fI : Addr} {fd fdC fdI : FuncData} (F : Fun K "_law_is_met" "_law_is_met" sMet f fd) (B : Bi mg) (FC : Fun K "_law_class" "_law_class" sClass fC fdC) (mC : mg "_law_class" = some (.ref fC)) (bC : Binds K fdC ["_law_e"] [])
    (cB : ErC K mg "Busy") (rB : ∀ D, mg "Busy" = some (.ref D) → Rz K D CM) (mM : mg "MountError" = some (.ref CM)) (O : Ox P w K mg base "NoText" "line" CT fI fdI) (rT : Rz K CT CM) (wT : Wd "NoText") : FnOk P w K mg base CX0 3 f fd ["_law_said"] spMet := by
  refine F.ok scMet (fun vs H Q E h => ?_) (fun cdv A outer s H vs Q E hr h => ?_)
  · obtain ⟨v, rfl, _⟩ := h
    rfl
  · obtain ⟨v, rfl, q⟩ := h
    obtain ⟨DB, gB, xB, kB, kdB⟩ := cB
    have zB := rB DB gB
    refine ⟨_, pss_cons (ps_set (i := 1) scMet.nd rfl (.inl rfl) pe_str) (pss_cons
      (ps_try_as (i := 2) rfl rfl scMet.nd rfl rfl ⟨rfl, by decide, .inl mM⟩ takes0 (fun W pn xe tk _ => pss_one (ps_raise (by rfl) tk (SkE.pmk_own1 PySem.F.excBase_ValueError xB gB kB (raises_own zB.b zB.t) (by rfl) (pv 0))))
        (fun a oe cls d pn hz hf => pss_one (ps_set (i := 1) scMet.nd rfl (.inl rfl) (pe_classH (k := 0) hz hf FC B (rmH hr) (by rfl) mC bC (pv 2))))) (pss_cons
      (ps_try_as (i := 2) rfl rfl scMet.nd rfl rfl ⟨rfl, by decide, .inl mM⟩ takes0 (fun W pn xe tk _ => pss_one (ps_raise (by rfl) tk (pmk_oex O.T O.iC O.tI O.ok hr O.b1 .nil pass0 (by rfl) O.at_ (pa_cons (pv 0) pa_nil))))
        (fun a oe cls d pn hz hf => pss_one (ps_set (i := 1) scMet.nd rfl (.inl rfl) (pe_op op_add_str (pv 1) (pe_classH (k := 0) hz hf FC B (rmH hr) (by rfl) mC bC (pv 2)))))) 
      (pss_one (ps_ret (pe_cmpR op_eq (pv 1) pe_str (nomark _)))))), ?_⟩
    refine ⟨_, rfl, true, zB.m, fun _ a ha => ?_, fun z => Bool.noConfusion z⟩
    refine ⟨rfl, DB, "Busy", rfl, kdB, wd_Busy, .inl rfl, fun H1 s1 => ?_⟩
    refine ⟨_, rfl, (by show 1 ≤ 1000; decide), fun b hb => ⟨b, CT, v, rfl, O.T, O.no, upd_same, fun dx hd ne => ?_⟩⟩
    have hd1 : H1 dx = none := by
      rw [upd_ne ne] at hd
      exact hd
    refine ⟨rfl, dx, _, upd_same, (by rw [upd_ne ne]; exact upd_same), hd1, true, rT.m, fun _ c hc => ?_, fun z => Bool.noConfusion z⟩
    refine ⟨_, rfl, rfl, CT, "NoText", rfl, O.kd, wT, .inr ⟨dx, _, rfl, upd_same⟩, fun H2 s2 => ?_⟩
    refine ⟨_, _, rfl, rfl, (by show 4 + 6 ≤ sizeLine; rw [sizeLine_eq]; omega), _, rfl, (by rfl), ?_⟩
    refine q H2 fun y o hy => s2 y o ?_
    have h1 := s1 y o hy
    rw [upd_ne (ne_of_none h1 hd1), del_ne (ne_of_none h1 hb), upd_ne (ne_of_none h1 hb), upd_ne (ne_of_none h1 hd1), upd_ne (ne_of_none h1 hb)]
    exact h1
end
end Tx
set_option Elab.async false
set_option linter.all false
set_option maxRecDepth 100000
set_option maxHeartbeats 8000000
namespace Tx
open PySem PySem.Spec PyProof.Rows L2 Cm ErV Wl
/-- text * n -/
theorem op_mulS {X : Cx} : OpR X (binaryOp .Mult) (fun x y H Q => ∃ a n, x = .str a ∧ y = .int n ∧ MulOk a n ∧ Q (.str (Txt.mul a n)) H) := by
  intro pins s σ H x y v u Q I rx ry h
  obtain ⟨a, n, rfl, rfl, ok, q⟩ := h
  obtain ⟨t, rfl⟩ := rx
  obtain ⟨t', rfl⟩ := ry
  exact SB.mul ok fun t2 tk => ⟨.str (Txt.mul a n), H, I.tok _, ⟨_, rfl⟩, q⟩
/-! ### errors with one field -/
/-- at x an error of the class nm whose field f is y -/
def OxAt (K : PySem.W.Frag) (mg : Str → Option Value) : Hp → V → Str × Str × V → Prop := fun H x w => ∃ a C dx, x = .ref a ∧ H a = some (exo a C (some dx)) ∧ H dx = some (exd dx [(w.2.1, w.2.2)]) ∧ XfC K C ∧ PySem.W.findIn K (.ref C) w.2.1 = some none ∧ Kd K mg C w.1
theorem stbO {K : PySem.W.Frag} {mg : Str → Option Value} : StbR (OxAt K mg) := fun H H' x w s ⟨a, C, dx, e, h1, h2, r⟩ => ⟨a, C, dx, e, s _ _ h1, s _ _ h2, r⟩
section
variable {X : Cx} {G : L2.St → Hp → Prop} {nm f : Str} {C fI : Addr} {fd : FuncData} {p pos q1 : Pos} {y : V} {i : Nat} {e : Expr}
theorem ox_end {H : Hp} {a dx : Addr} {Q : VK} (O : Ox X.prog X.w X.K X.mg X.base nm f C fI fd) (ha : H a = none) (q : ∀ v H', Same H H' → OxAt X.K X.mg H' v (nm, f, y) → Q v H') : spXi X.K f [.ref a, y] (upd H a (exo a C none)) (fun v H2 => v = .non ∧ Q (.ref a) H2) (fun _ _ _ => False) := by
  refine ⟨a, C, y, rfl, O.T, O.no, upd_same, fun dx hd ne => ⟨rfl, q _ _ (fun b o z => ?_) ⟨a, C, dx, rfl, upd_same, by rw [upd_ne ne]; exact upd_same, O.x, O.no, O.kd⟩⟩⟩
  have z2 : upd H a (exo a C none) b = some o := by
    rw [upd_ne (ne_of_none z ha)]
    exact z
  rw [upd_ne (ne_of_none z ha), upd_ne (ne_of_none z2 hd)]
  exact z2
theorem pe_ox1 (O : Ox X.prog X.w X.K X.mg X.base nm f C fI fd) (hr : Room 2 X.A) (hg : Gl X nm) (hi : ∀ σ H, G σ H → σ[i]? = some (some y)) (he : PE X e (tVar i)) (hs : starEach [e] X.env = (false, eval e X.env) :: starEach [] X.env := by rfl) (hdb : (nm == ("__debug__" : Str)) = false := by decide) :
    PE X (.Call (.Name nm p) [e] [] pos) (tE G (OxAt X.K X.mg) (nm, f, y)) :=
  PE.weak (pe_oex O.T O.iC O.tI O.ok hr O.b1 .nil pass0 hg O.at_ (pa_cons he pa_nil hs) hdb hs) fun σ H Q g => ⟨y, hi σ H g.1, (by show 1 ≤ 1000; decide), fun a ha => ox_end (dx := 0) O ha g.2⟩
theorem pe_oxK (O : Ox X.prog X.w X.K X.mg X.base nm f C fI fd) (hr : Room 2 X.A) (hg : Gl X nm) (hi : ∀ σ H, G σ H → σ[i]? = some (some y)) (he : PE X e (tVar i)) (hdb : (nm == ("__debug__" : Str)) = false := by decide)
    (hall : (backToKw pos (keywordEach [⟨some f, e, q1⟩] X.env)).all (·.1.isSome) = true := by rfl) (hks : (backToKw pos (keywordEach [⟨some f, e, q1⟩] X.env)).filterMap (·.1) = [f] := by rfl) (hpl : ((backTo pos (starEach [] X.env)).any (·.1) || (backToKw pos (keywordEach [⟨some f, e, q1⟩] X.env)).any (·.1.isNone)) = false := by rfl) :
    PE X (.Call (.Name nm p) [] [⟨some f, e, q1⟩] pos) (tE G (OxAt X.K X.mg) (nm, f, y)) :=
  PE.weak (pe_oexK O.T O.iC O.tI O.ok hr O.bk pass0 hg O.at_ (pk_cons he pk_nil) hall hks hdb hpl) fun σ H Q g => ⟨y, hi σ H g.1, y, rfl, fun a ha => ox_end (dx := 0) O ha g.2⟩
theorem pe_ox0 {ds : List Value} {y : V} (O : Ox X.prog X.w X.K X.mg X.base nm f C fI fd) (hb : Binds X.K fd ["self", f] ds) (hd : Vals [y] ds) (hr : Room 2 X.A) (hg : Gl X nm) (hdb : (nm == ("__debug__" : Str)) = false := by decide) :
    PE X (.Call (.Name nm p) [] [] pos) (tE G (OxAt X.K X.mg) (nm, f, y)) :=
  PE.weak (pe_oex0 O.T O.iC O.tI O.ok hr hb hd pass0 hg O.at_ hdb) fun σ H Q g => ⟨(by show 0 ≤ 1000; decide), fun a ha => ox_end (dx := 0) O ha g.2⟩
end
theorem wd_NoPath : Wd "NoPath" := ⟨by decide +kernel, by decide +kernel⟩
theorem wd_TooMany : Wd "TooMany" := ⟨by decide +kernel, by decide +kernel⟩
theorem wd_NoText : Wd "NoText" := ⟨by decide +kernel, by decide +kernel⟩
theorem OxAt.er {K : PySem.W.Frag} {mg : Str → Option Value} {H : Hp} {x : V} {w : Str × Str × V} (h : OxAt K mg H x w) (d : Wd w.1) : ErAt K mg H x w.1 := by
  obtain ⟨a, C, dx, e, h1, h2, _, _, k⟩ := h
  exact ⟨a, C, e, k, d, .inr ⟨dx, _, h1, h2⟩⟩
theorem pd_at {α : Type} {F : V → α → Prop} {xs : List V} {ws : List α} (p : Paired F xs ws) : ∀ {i : Nat} {x : V}, xs[i]? = some x → ∃ w, ws[i]? = some w ∧ F x w := by
  induction p with
  | nil =>
    intro i x e
    cases e
  | cons a r ih =>
    intro i x e
    match i, e with
    | 0, e =>
      cases e
      exact ⟨_, rfl, a⟩
    | i + 1, e => exact ih e
theorem dp_strs {K : PySem.W.Frag} {H : Hp} : ∀ ws : List Str, DpAll K H (ws.map V.str) (ws.map PyData.str)
  | [] => .nil
  | w :: ws => .cons (.str w) (dp_strs ws)
/-! ### law -/
abbrev nW : List Str := ["_law_script", "_law_state", "_law_said", "_law_one", "_law_some", "_law_e", "_law_word"]
theorem scLaw : FnScope nW ["_law_script"] (defScope sLaw) := ⟨rfl, rfl, rfl, by decide +kernel, rfl, by decide +kernel, by decide +kernel⟩
def stL (i : Nat) : Stmt := (defBody sLaw).getD i (.Pass ⟨0, 0, 0, 0⟩)
theorem bodyLaw : defBody sLaw = [stL 0, stL 1, stL 2, stL 3, stL 4, stL 5, stL 6, stL 7, stL 8] := rfl
structure Defs (P : Program) (w : World) (K : PySem.W.Frag) (mg : Str → Option Value) (base : Heap) : Prop where
  cell : Cl P w K mg base CX0 1 "_law_cell_at" ["_law_script", "_law_k"] (spCell K)
  dig : Cl P w K mg base CX0 1 "_law_digit" ["_law_state", "_law_base"] spDigit
  cls : Cl P w K mg base CX0 1 "_law_class" ["_law_e"] (spClass K mg)
  plain : Cl P w K mg base CX0 1 "_law_plain" ["_law_said"] (spPlain K mg)
  bare : Cl P w K mg base CX0 1 "_law_bare" [] (spBare K mg)
  met : Cl P w K mg base CX0 3 "_law_is_met" ["_law_said"] spMet
  path : ∃ C fI fd, Ox P w K mg base "NoPath" "at" C fI fd
  many : ∃ C fI fd, Ox P w K mg base "TooMany" "many" C fI fd
  text : ∃ C fI fd ds, Ox P w K mg base "NoText" "line" C fI fd ∧ Binds K fd ["self", "line"] ds ∧ Vals [.non] ds
abbrev XW (P : Program) (w : World) (K : PySem.W.Frag) (mg : Str → Option Value) (base : Heap) (f : Addr) (cdv : Value) (A : Around) (outer : List Env) (s : Shared) (H0 : Hp) (E : XK) : Cx := (cxOf CX0 P w K mg base nW "law" (defScope sLaw) f cdv A outer s H0 E).nox
def StAt (l : Addr) (H : Hp) : Prop := ∃ st, H l = some (.lst st) ∧ StOk st
theorem StAt.same {l : Addr} {H H' : Hp} (h : StAt l H) (s : Same H H') : StAt l H' := by
  obtain ⟨st, a, b⟩ := h
  exact ⟨st, s _ _ a, b⟩
def W1 (σ : L2.St) (H : Hp) : Prop := ∃ a l, σ = [a, some (.ref l), none, none, none, none, none] ∧ StAt l H
def W2 (σ : L2.St) (H : Hp) : Prop := ∃ a l v e u, σ = [a, some (.ref l), some v, none, none, e, u] ∧ StAt l H
def ones : List (V × PyData) := [(.int 0, .int 0), (.int (-1), .int (-1)), (.int 5, .int 5), (.non, .none), (.int (10 ^ 20), .int (10 ^ 20))]
def W3 (y : V) (σ : L2.St) (H : Hp) : Prop := ∃ a l v c e u, σ = [a, l, some v, some y, c, e, u]
section
variable {P : Program} {w : World} {K : PySem.W.Frag} {mg : Str → Option Value} {base : Heap} {f : Addr} {cdv : Value} {A : Around} {outer : List Env} {s : Shared} {H0 H : Hp} {E : XK}
theorem hW1 (D : Defs P w K mg base) (hr : Room 4 (XW P w K mg base f cdv A outer s H0 E).A) : Ho (XW P w K mg base f cdv A outer s H0 E) (stL 1) W1 W2 := by
  refine ⟨_, ps_set (i := 2) scLaw.nd rfl (.inl rfl) (pe_ix ix_list (pe_lst (pa_cons pe_str (pa_cons pe_str (pa_cons pe_str (pa_cons (pe_op op_mulS pe_str (pe_op op_add pe_int (pe_cl D.dig hr (by decide) (by rfl) pass0 (pa_cons (pv 1) (pa_cons pe_int pa_nil))))) pa_nil))))) (pe_cl D.dig hr (by decide) (by rfl) pass0 (pa_cons (pv 1) (pa_cons pe_int pa_nil))) (fun _ _ => rfl)), ?_⟩
  rintro E0 σ H ⟨a, l, rfl, st, hl, ok⟩ q
  refine ⟨_, rfl, l, st, 50, rfl, hl, ok, by decide, by decide, fun d st1 H1 hd ok1 h1 b1 => ?_⟩
  refine ⟨_, _, rfl, rfl, _, _, rfl, rfl, ?_, ?_⟩
  · have hd' : (d : Int) < 50 := hd
    exact mulOk_of 1 100 (by decide +kernel) (by omega) (by omega) (by decide) (by decide)
  refine ⟨by show 4 ≤ sizeLine; decide, fun p hp => ?_⟩
  refine ⟨_, rfl, l, st1, 4, rfl, (by rw [upd_ne (ne_of_none h1 hp)]; exact h1), ok1, by decide, by decide, fun k st2 H2 hk ok2 h2 b2 => ?_⟩
  have h3 := b2 p _ (ne_of_none h1 hp).symm upd_same
  have hk' : k < 4 := by
    have z : (k : Int) < 4 := hk
    omega
  obtain ⟨z, hz⟩ : ∃ z, atI [V.str "", .str "no", .str "a b", .str (Txt.mul "x" (1 + (d : Int)))] (k : Int) = some z := ⟨_, atI_nat (List.getElem?_eq_getElem hk')⟩
  exact ⟨p, _, _, z, rfl, rfl, SqL.of h3, hz, q _ _ ⟨_, l, z, _, _, rfl, st2, h2, ok2⟩⟩
theorem hW2 (D : Defs P w K mg base) (hr : Room 4 (XW P w K mg base f cdv A outer s H0 E).A) : Ho (XW P w K mg base f cdv A outer s H0 E) (stL 2) W2 W2 := by
  refine ⟨_, ps_for PassesOwn.never rfl (pi_list (pe_cl D.plain hr (by decide) (by rfl) pass0 (pa_cons (pv 2) pa_nil))) (pg_tup rfl (pgs_cons (pg_name (i := 5) scLaw.nd rfl (Or.inl rfl)) (pgs_cons (pg_name (i := 6) scLaw.nd rfl (Or.inl rfl)) pgs_nil)))
    (pss_one (ps_if (pt_cmpR op_ne (pe_cl D.cls hr (by decide) (by rfl) pass0 (pa_cons (pv 5) pa_nil)) (pv 6) (nomark _)) (pss_one (ps_ret pe_bl)) pss_nil)), ?_⟩
  rintro E0 σ H ⟨a, l, v, e, u, rfl, st⟩ q
  refine ⟨_, rfl, v, rfl, fun x H1 s1 hL => ?_⟩
  obtain ⟨L, xs, rfl, hl, pd⟩ := hL
  refine ⟨L, rfl, ⟨_, SqL.of hl⟩, for_list (K := K) (a := L) (xs := xs) (fun i σ H2 => (∃ e u, σ = [a, some (.ref l), some v, none, none, e, u]) ∧ Same H1 H2) ⟨⟨_, _, rfl⟩, Same.refl H1⟩ (fun i σ H2 _ h => SqL.of (h.2 _ _ hl)) ?_ ?_⟩
  · rintro i y σ H2 hy ⟨⟨e, u, rfl⟩, s2⟩
    obtain ⟨wd, hwd, hp⟩ := pd_at pd hy
    obtain ⟨p, x, rfl, hp, he⟩ := stbP _ _ _ _ s2 hp
    refine ⟨p, _, rfl, SqT.of hp, rfl, _, _, rfl, _, _, rfl, rfl, ?_⟩
    refine ⟨_, rfl, x, wd, rfl, he, fun H3 s3 => ⟨_, rfl, rfl, _, rfl, ?_⟩⟩
    rw [decide_eq_true (show V.str wd = V.str wd from rfl)]
    exact iteF ⟨⟨_, _, rfl⟩, s2.trans s3⟩
  · rintro σ H2 ⟨⟨e, u, rfl⟩, s2⟩
    exact q _ _ ⟨a, l, v, e, u, rfl, st.same (s1.trans s2)⟩
/-- the answers of a list comprehension over errors -/
theorem lc_words {α : Type} {R : Hp → V → α → Prop} {nmOf : α → Str} (hR : StbR R) {ws : List α} (hz : ws.length ≤ 1000) {H1 : Hp} {l L : Addr} {xs : List V} {σ : L2.St} {g : TG} {te : TE} {vs : List Nat} {Qd : Hp → Prop} (hl : H1 l = some (.lst xs)) (pd : Paired (R H1) xs ws) (hL : H1 L = none)
    (step : ∀ x wd H2, R H2 x wd → ∀ (N : V → Hp → Prop), (∀ H3, Same H2 H3 → N (.str (nmOf wd)) H3) → g x (wipe σ vs) H2 fun σ2 H3 => wipe σ2 vs = wipe σ vs ∧ te σ2 H3 N)
    (hd : ∀ H2, Same H1 H2 → H2 L = some (.lst ((ws.map nmOf).map V.str)) → Qd H2) :
    ∃ W : Nat → Nat → Hp → Prop, (∃ m, W 0 m (upd H1 L (.lst []))) ∧ ∀ i m H, W i m H →
      ((Itl K l).stop i H ∧ Qd H) ∨ ((Itl K l).go i H ∧ ∃ Nx : Hp → Prop, (∀ H', Nx H' → ∃ m', m' < m ∧ W (i + 1) m' H') ∧ ∀ x H', (Itl K l).yld i H x H' → g x (wipe σ vs) H' fun σ2 H2 => wipe σ2 vs = wipe σ vs ∧ tYes σ2 H2 fun b H3 =>
        if b = true then te σ2 H3 fun y H4 => ∃ acc, H4 L = some (.lst acc) ∧ acc.length < sizeLine ∧ Nx (upd H4 L (.lst (acc ++ [y]))) else Nx H3) := by
  have len := pd_len pd
  refine lc_list (K := K) (a := l) (xs := xs) (fun i H2 => H2 L = some (.lst (((ws.take i).map nmOf).map V.str)) ∧ Same H1 H2) ⟨upd_same, same_new hL⟩ (fun i H2 _ h => SqL.of (h.2 _ _ hl)) ?_ ?_
  · rintro i y H2 hy ⟨h2, s2⟩
    obtain ⟨wd, hwd, hp⟩ := pd_at pd hy
    refine step y wd H2 (hR _ _ _ _ s2 hp) _ fun H3 s3 => ?_
    refine ⟨_, s3 _ _ h2, ?_, ?_, same_mut hL (s2.trans s3)⟩
    · refine small1000 ?_
      rw [List.length_map, List.length_map, List.length_take]
      omega
    · rw [upd_same, take_snoc hwd, List.map_append, List.map_append]
      rfl
  · rintro H2 ⟨h2, s2⟩
    rw [len, List.take_length] at h2
    exact hd H2 s2 h2
theorem hW3 (D : Defs P w K mg base) (hr : Room 4 (XW P w K mg base f cdv A outer s H0 E).A) : Ho (XW P w K mg base f cdv A outer s H0 E) (stL 3) W2 W2 := by
  refine ⟨_, ps_if (pt_cmpR (op_neD hr.units)
    (pe_lc (own := [("_law_e", 5)]) (g := gName 5) (tt := tYes) (by rfl) scLaw.nd (pi_list (pe_cl0 D.bare hr (by decide) (by rfl) pass0)) (blkOk_by (own := [("_law_e", 5)]) (N := nW) (sc := defScope sLaw) (by decide +kernel)) (fun _ _ _ _ _ => pg_name (i := 5) scLaw.nd rfl (Or.inl rfl)) (fun _ _ _ _ _ => pts_nil)
      (fun _ _ _ _ _ => pe_cl D.cls hr (by decide) (by rfl) pass0 (pa_cons (pv 5) pa_nil)))
    (pe_lc (own := [("_law_e", 5), ("_law_word", 6)]) (g := gTup K 2 (gCons (gName 5) (gCons (gName 6) gNil))) (tt := tYes) (by rfl) scLaw.nd (pi_list (pe_cl D.plain hr (by decide) (by rfl) pass0 (pa_cons pe_str pa_nil))) (blkOk_by (own := [("_law_e", 5), ("_law_word", 6)]) (N := nW) (sc := defScope sLaw) (by decide +kernel))
      (fun _ _ _ _ _ => pg_tup rfl (pgs_cons (pg_name (i := 5) scLaw.nd rfl (Or.inl rfl)) (pgs_cons (pg_name (i := 6) scLaw.nd rfl (Or.inl rfl)) pgs_nil))) (fun _ _ _ _ _ => pts_nil)
      (fun _ _ _ _ _ => pv 6)) (nomark _)) (pss_one (ps_ret pe_bl)) pss_nil, ?_⟩
  rintro E0 σ H ⟨a, l, v, e, u, rfl, st⟩ q
  refine ⟨rfl, fun x H1 s1 hL => ?_⟩
  obtain ⟨b, xs, rfl, hb, pd⟩ := hL
  refine ⟨b, rfl, ⟨_, SqL.of hb⟩, fun L hL => lc_words (nmOf := id) stbE (by decide) hb pd hL (fun x wd H2 hx N q => ⟨rfl, _, rfl, x, wd, rfl, hx, q⟩) fun H2 s2 h2 => ?_⟩
  refine ⟨_, rfl, fun x H3 s3 hL3 => ?_⟩
  obtain ⟨b2, ys, rfl, hb2, pd2⟩ := hL3
  refine ⟨b2, rfl, ⟨_, SqL.of hb2⟩, fun L2 hL2 => lc_words (nmOf := id) stbP (by decide) hb2 pd2 hL2 (fun x wd H4 hx N q => ?_) fun H4 s4 h4 => ?_⟩
  · obtain ⟨p, z, rfl, hp, _⟩ := hx
    exact ⟨p, _, rfl, SqT.of hp, rfl, _, _, rfl, _, _, rfl, rfl, rfl, _, rfl, q _ (Same.refl _)⟩
  · have hA : H4 L = some (.lst ((plN.map id).map V.str)) := s4 _ _ (s3 _ _ h2)
    refine ⟨_, _, .lst (SqL.of hA) (dp_strs _), .lst (SqL.of h4) (dp_strs _), by decide +kernel, by decide +kernel, _, rfl, ?_⟩
    rw [show PyData.eqv (.list ((plN.map id).map PyData.str)) (.list ((plN.map id).map PyData.str)) = true by decide +kernel]
    exact iteF (q _ _ ⟨a, l, v, _, _, rfl, st.same ((s1.trans s2).trans (s3.trans s4))⟩)
end
end Tx
set_option Elab.async false
set_option linter.all false
set_option maxRecDepth 100000
set_option maxHeartbeats 8000000
namespace Tx
open PySem PySem.Spec PyProof.Rows L2 Cm ErV Wl
theorem HoR.ex {X : Cx} {sts : List Stmt} {ι : Type} {p : ι → L2.St → Hp → Prop} {r : VK} (h : ∀ i, HoR X sts (p i) r) : HoR X sts (fun σ H => ∃ i, p i σ H) r :=
  ⟨fun D σ H => ∃ i, Classical.choose (h i) D σ H, ⟨fun pins s σ H D I ⟨i, z⟩ => (Classical.choose_spec (h i)).1.run pins s σ H D I z⟩, fun D σ H ⟨i, z⟩ q => ⟨i, (Classical.choose_spec (h i)).2 D σ H z q⟩⟩
theorem HoR.mono {X : Cx} {sts : List Stmt} {p p' : L2.St → Hp → Prop} {r : VK} (h : HoR X sts p r) (i : ∀ σ H, p' σ H → p σ H) : HoR X sts p' r := by
  obtain ⟨t, a, b⟩ := h
  exact ⟨t, a, fun D σ H z q => b D σ H (i σ H z) q⟩
def soms (y : V) : List (Str × Str × V) := [("NoPath", "at", y), ("NoPath", "at", y), ("TooMany", "many", y), ("TooMany", "many", y), ("NoText", "line", y), ("NoText", "line", y), ("NoText", "line", .non)]
/-- behind the making of the errors with fields -/
def W4 (K : PySem.W.Frag) (mg : Str → Option Value) (y : V) (σ : L2.St) (H : Hp) : Prop := ∃ a l v c e u, σ = [a, l, some v, some y, some c, e, u] ∧ LsAt (OxAt K mg) H c (soms y)
theorem one_ok {y : V} {d : PyData} (h : (y, d) ∈ ones) : (y = .non ∨ ∃ i, y = .int i) ∧ (∀ K H, Dp K H y d) ∧ SeqAt.shaped (.tuple [d, d, .none]) = true ∧ PyData.eqv (.tuple [d, d, .none]) (.tuple [d, d, .none]) = true := by
  simp only [ones, List.mem_cons, List.not_mem_nil, or_false, Prod.mk.injEq] at h
  rcases h with ⟨rfl, rfl⟩ | ⟨rfl, rfl⟩ | ⟨rfl, rfl⟩ | ⟨rfl, rfl⟩ | ⟨rfl, rfl⟩
  · exact ⟨.inr ⟨_, rfl⟩, fun _ _ => .int _, by decide +kernel, by decide +kernel⟩
  · exact ⟨.inr ⟨_, rfl⟩, fun _ _ => .int _, by decide +kernel, by decide +kernel⟩
  · exact ⟨.inr ⟨_, rfl⟩, fun _ _ => .int _, by decide +kernel, by decide +kernel⟩
  · exact ⟨.inl rfl, fun _ _ => .non, by decide +kernel, by decide +kernel⟩
  · exact ⟨.inr ⟨_, rfl⟩, fun _ _ => .int _, by decide +kernel, by decide +kernel⟩
theorem scal_self {y : V} (h : y = .non ∨ ∃ i, y = .int i) : scal y y = true := by
  rcases h with rfl | ⟨i, rfl⟩ <;> rfl
def spLaw (K : PySem.W.Frag) : Sp := fun vs H Q _ => ∃ (a : Addr) (ns : List Int), vs = [.ref a] ∧ SqL K H a (ns.map V.int) ∧ ns.length ≤ 63 ∧ ∀ H', Q (.bl true) H'
section
variable {P : Program} {w : World} {K : PySem.W.Frag} {mg : Str → Option Value} {base : Heap} {f : Addr} {cdv : Value} {A : Around} {outer : List Env} {s : Shared} {H0 H : Hp} {E : XK}
theorem hW0 (D : Defs P w K mg base) (hr : Room 4 (XW P w K mg base f cdv A outer s H0 E).A) : Ho (XW P w K mg base f cdv A outer s H0 E) (stL 0) (fun σ H => ∃ (a : Addr) (ns : List Int), σ = [some (.ref a), none, none, none, none, none, none] ∧ SqL K H a (ns.map V.int)) W1 := by
  refine ⟨_, ps_set (i := 1) scLaw.nd rfl (.inl rfl) (pe_lst (pa_cons (pe_cl D.cell hr (by decide) (by rfl) pass0 (pa_cons (pv 0) (pa_cons pe_int pa_nil))) pa_nil)), ?_⟩
  rintro E0 σ H ⟨a, ns, rfl, hS⟩ q
  exact ⟨_, rfl, a, ns, 0, rfl, hS, fun i _ => ⟨by show 1 ≤ sizeLine; decide, fun p hp => q _ _ ⟨_, p, rfl, _, upd_same, .inl ⟨_, rfl⟩⟩⟩⟩
theorem hW4 (D : Defs P w K mg base) (hr : Room 4 (XW P w K mg base f cdv A outer s H0 E).A) : Ho (XW P w K mg base f cdv A outer s H0 E) (stL 4) W2 (fun σ H => ∃ y d, (y, d) ∈ ones ∧ W3 y σ H) := by
  refine ⟨_, ps_set (i := 3) scLaw.nd rfl (.inl rfl) (pe_ix ix_list (pe_lst (pa_cons pe_int (pa_cons (pe_un un_neg pe_int) (pa_cons pe_int (pa_cons pe_non (pa_cons (pe_op op_pow pe_int pe_int) pa_nil)))))) (pe_cl D.dig hr (by decide) (by rfl) pass0 (pa_cons (pv 1) (pa_cons pe_int pa_nil))) (fun _ _ => rfl)), ?_⟩
  rintro E0 σ H ⟨a, l, v, e, u, rfl, st, hl, ok⟩ q
  refine ⟨_, rfl, 10, 20, rfl, rfl, ⟨by decide, by decide, by decide⟩, by show 5 ≤ sizeLine; decide, fun p hp => ?_⟩
  refine ⟨_, rfl, l, st, 5, rfl, (by rw [upd_ne (ne_of_none hl hp)]; exact hl), ok, by decide, by decide, fun k st2 H2 hk ok2 h2 b2 => ?_⟩
  have h3 := b2 p _ (ne_of_none hl hp).symm upd_same
  have hk' : k < 5 := by
    have z : (k : Int) < 5 := hk
    omega
  obtain ⟨y, d, hy, hm⟩ : ∃ y d, [V.int 0, .int (-1), .int 5, .non, .int (10 ^ Int.toNat 20)][k]? = some y ∧ (y, d) ∈ ones := by
    match k, hk' with
    | 0, _ => exact ⟨_, .int 0, rfl, .head _⟩
    | 1, _ => exact ⟨_, .int (-1), rfl, List.mem_cons_of_mem _ (.head _)⟩
    | 2, _ => exact ⟨_, .int 5, rfl, List.mem_cons_of_mem _ (List.mem_cons_of_mem _ (.head _))⟩
    | 3, _ => exact ⟨_, .none, rfl, List.mem_cons_of_mem _ (List.mem_cons_of_mem _ (List.mem_cons_of_mem _ (.head _)))⟩
    | 4, _ => exact ⟨_, .int (10 ^ 20), rfl, List.mem_cons_of_mem _ (List.mem_cons_of_mem _ (List.mem_cons_of_mem _ (List.mem_cons_of_mem _ (.head _))))⟩
  exact ⟨p, _, _, y, rfl, rfl, SqL.of h3, atI_nat hy, q _ _ ⟨y, d, hm, a, _, v, _, _, _, rfl⟩⟩
theorem hW5 (D : Defs P w K mg base) (hr : Room 4 (XW P w K mg base f cdv A outer s H0 E).A) (y : V) : Ho (XW P w K mg base f cdv A outer s H0 E) (stL 5) (W3 y) (W4 K mg y) := by
  have gs : Stb (W3 y) := fun σ H H' _ h => h
  have gi : ∀ σ H, W3 y σ H → σ[3]? = some (some y) := by
    rintro σ H ⟨a, l, v, c, e, u, rfl⟩
    rfl
  have r2 : Room 2 (XW P w K mg base f cdv A outer s H0 E).A := hr.mono (by decide)
  obtain ⟨C1, f1, d1, O1⟩ := D.path
  obtain ⟨C2, f2, d2, O2⟩ := D.many
  obtain ⟨C3, f3, d3, ds, O3, b3, v3⟩ := D.text
  refine ho_set (i := 4) (R := LsAt (OxAt K mg)) (w := soms y) scLaw.nd rfl (.inl rfl) (pe_l stbO (by show 7 ≤ 1000; decide) (pa_c gs stbO (pe_ox1 O1 r2 (by rfl) gi (pv 3)) (pa_c gs stbO (pe_oxK O1 r2 (by rfl) gi (pv 3)) (pa_c gs stbO (pe_ox1 O2 r2 (by rfl) gi (pv 3)) (pa_c gs stbO (pe_oxK O2 r2 (by rfl) gi (pv 3)) (pa_c gs stbO (pe_ox1 O3 r2 (by rfl) gi (pv 3)) (pa_c gs stbO (pe_oxK O3 r2 (by rfl) gi (pv 3)) (pa_c gs stbO (pe_ox0 O3 b3 v3 r2 (by rfl)) (pa_n _ _))))))))) ?_
  rintro σ H v H' ⟨a, l, v0, c, e, u, rfl⟩ sm r
  exact ⟨a, l, v0, v, e, u, rfl, r⟩
theorem hW6 (D : Defs P w K mg base) (hr : Room 4 (XW P w K mg base f cdv A outer s H0 E).A) (y : V) : Ho (XW P w K mg base f cdv A outer s H0 E) (stL 6) (W4 K mg y) (W4 K mg y) := by
  refine ⟨_, ps_if (pt_cmpR (op_neD hr.units)
    (pe_lc (own := [("_law_e", 5)]) (g := gName 5) (tt := tYes) (by rfl) scLaw.nd (pi_list (pv 4)) (blkOk_by (own := [("_law_e", 5)]) (N := nW) (sc := defScope sLaw) (by decide +kernel)) (fun _ _ _ _ _ => pg_name (i := 5) scLaw.nd rfl (Or.inl rfl)) (fun _ _ _ _ _ => pts_nil)
      (fun _ _ _ _ _ => pe_cl D.cls hr (by decide) (by rfl) pass0 (pa_cons (pv 5) pa_nil)))
    (pe_lst (pa_cons pe_str (pa_cons pe_str (pa_cons pe_str (pa_cons pe_str (pa_cons pe_str (pa_cons pe_str (pa_cons pe_str pa_nil)))))))) (nomark _)) (pss_one (ps_ret pe_bl)) pss_nil, ?_⟩
  rintro E0 σ H ⟨a, l, v, c, e, u, rfl, b, xs, rfl, hb, pd⟩ q
  have wds : ∀ w ∈ soms y, Wd w.1 := by
    intro w hw
    simp only [soms, List.mem_cons, List.not_mem_nil, or_false] at hw
    rcases hw with rfl | rfl | rfl | rfl | rfl | rfl | rfl
    · exact wd_NoPath
    · exact wd_NoPath
    · exact wd_TooMany
    · exact wd_TooMany
    · exact wd_NoText
    · exact wd_NoText
    · exact wd_NoText
  have pe : Paired (ErAt K mg H) xs ((soms y).map (·.1)) := by
    have key : ∀ {xs : List V} {ws : List (Str × Str × V)}, (∀ w ∈ ws, Wd w.1) → Paired (OxAt K mg H) xs ws → Paired (ErAt K mg H) xs (ws.map (·.1)) := by
      intro xs ws h p
      induction p with
      | nil => exact .nil
      | cons a r ih => exact .cons (a.er (h _ (List.mem_cons_self ..))) (ih fun w hw => h w (List.mem_cons_of_mem _ hw))
    exact key wds pd
  refine ⟨_, rfl, b, rfl, ⟨_, SqL.of hb⟩, fun L hL => lc_words (nmOf := id) stbE (by show 7 ≤ 1000; decide) hb pe hL (fun x wd H2 hx N q => ⟨rfl, _, rfl, x, wd, rfl, hx, q⟩) fun H2 s2 h2 => ?_⟩
  refine ⟨by show 7 ≤ sizeLine; decide, fun p hp => ?_⟩
  have s3 := same_new (o := HO.lst [.str "NoPath", .str "NoPath", .str "TooMany", .str "TooMany", .str "NoText", .str "NoText", .str "NoText"]) hp
  refine ⟨_, _, .lst (SqL.of (s3 _ _ h2)) (dp_strs _), .lst (SqL.of upd_same) (dp_strs ["NoPath", "NoPath", "TooMany", "TooMany", "NoText", "NoText", "NoText"]), ?_, by decide +kernel, _, rfl, ?_⟩
  · show SeqAt.shaped (.list ((["NoPath", "NoPath", "TooMany", "TooMany", "NoText", "NoText", "NoText"] : List Str).map PyData.str)) = true
    decide +kernel
  rw [show PyData.eqv (.list ((((soms y).map (·.1)).map id).map PyData.str)) (.list ((["NoPath", "NoPath", "TooMany", "TooMany", "NoText", "NoText", "NoText"] : List Str).map PyData.str)) = true from (show PyData.eqv (.list ((["NoPath", "NoPath", "TooMany", "TooMany", "NoText", "NoText", "NoText"] : List Str).map PyData.str)) (.list ((["NoPath", "NoPath", "TooMany", "TooMany", "NoText", "NoText", "NoText"] : List Str).map PyData.str)) = true by decide +kernel)]
  exact iteF (q _ _ ⟨a, l, v, _, e, u, rfl, b, xs, rfl, s3 _ _ (s2 _ _ hb), pd_mono stbO (s2.trans s3) pd⟩)
/-- some[i].f -/
theorem ox_get {y : V} {b : Addr} {xs : List V} {H : Hp} (hb : H b = some (.lst xs)) (pd : Paired (OxAt K mg H) xs (soms y)) (i : Nat) {w : Str × Str × V} (hw : (soms y)[i]? = some w) : ∃ x, atI xs (i : Int) = some x ∧ OxAt K mg H x w := by
  have len : xs.length = (soms y).length := pd_len pd
  have hi : i < xs.length := by
    rw [len]
    exact (List.getElem?_eq_some_iff.mp hw).1
  obtain ⟨w', e, r⟩ := pd_at pd (List.getElem?_eq_getElem hi)
  rw [hw] at e
  cases e
  exact ⟨_, atI_nat (List.getElem?_eq_getElem hi), r⟩
theorem hW7 (y : V) (hy : y = .non ∨ ∃ i, y = .int i) : Ho (XW P w K mg base f cdv A outer s H0 E) (stL 7) (W4 K mg y) (W4 K mg y) := by
  refine ⟨_, ps_if (PW.pt (pw_or (pt_cmpR op_ne (pe_xv (pe_ix ix_list (pv 4) pe_int (fun _ _ => rfl))) (pv 3) (nomark _)) (pw_or (pt_cmpR op_ne (pe_xv (pe_ix ix_list (pv 4) pe_int (fun _ _ => rfl))) (pv 3) (nomark _)) (pw_or (pt_cmpR op_ne (pe_xv (pe_ix ix_list (pv 4) pe_int (fun _ _ => rfl))) (pv 3) (nomark _)) (pw_or1 (pt_cmpR op_ne (pe_xv (pe_ix ix_list (pv 4) pe_int (fun _ _ => rfl))) (pv 3) (nomark _))))))) (pss_one (ps_ret pe_bl)) pss_nil, ?_⟩
  rintro E0 σ H ⟨a, l, v, c, e, u, rfl, b, xs, rfl, hb, pd⟩ q
  have ny : (!decide (y = y)) = false := by rw [decide_eq_true rfl]; rfl
  obtain ⟨x0, e0, a0, C0, t0, rfl, h0, g0, X0, n0, _⟩ := ox_get hb pd 0 rfl
  obtain ⟨x1, e1, a1, C1, t1, rfl, h1, g1, X1, n1, _⟩ := ox_get hb pd 1 rfl
  obtain ⟨x2, e2, a2, C2, t2, rfl, h2, g2, X2, n2, _⟩ := ox_get hb pd 2 rfl
  obtain ⟨x3, e3, a3, C3, t3, rfl, h3, g3, X3, n3, _⟩ := ox_get hb pd 3 rfl
  refine ⟨_, rfl, b, _, _, _, rfl, rfl, SqL.of hb, e0, a0, C0, t0, _, y, rfl, h0, g0, X0, n0, rfl, _, rfl, scal_self hy, _, rfl, iteNS rfl ?_⟩
  refine ⟨_, rfl, b, _, _, _, rfl, rfl, SqL.of hb, e1, a1, C1, t1, _, y, rfl, h1, g1, X1, n1, rfl, _, rfl, scal_self hy, _, rfl, iteNS rfl ?_⟩
  refine ⟨_, rfl, b, _, _, _, rfl, rfl, SqL.of hb, e2, a2, C2, t2, _, y, rfl, h2, g2, X2, n2, rfl, _, rfl, scal_self hy, _, rfl, iteNS rfl ?_⟩
  refine ⟨_, rfl, b, _, _, _, rfl, rfl, SqL.of hb, e3, a3, C3, t3, _, y, rfl, h3, g3, X3, n3, rfl, _, rfl, scal_self hy, _, rfl, ?_⟩
  rw [ny]
  exact iteF (q _ _ ⟨a, l, v, _, e, u, rfl, b, xs, rfl, hb, pd⟩)
theorem hW8 (D : Defs P w K mg base) (hr : Room 4 (XW P w K mg base f cdv A outer s H0 E).A) {y : V} {d : PyData} (hy : (y, d) ∈ ones) : HoR (XW P w K mg base f cdv A outer s H0 E) [stL 8] (W4 K mg y) (fun v _ => v = .bl true) := by
  refine ⟨_, pss_one (ps_ret (pe_and (pe_cmpR (op_eqD hr.units) (pe_tup (pa_cons (pe_xv (pe_ix ix_list (pv 4) pe_int (fun _ _ => rfl))) (pa_cons (pe_xv (pe_ix ix_list (pv 4) pe_int (fun _ _ => rfl))) (pa_cons (pe_xv (pe_ix ix_list (pv 4) pe_int (fun _ _ => rfl))) pa_nil)))) (pe_tup (pa_cons (pv 3) (pa_cons (pv 3) (pa_cons pe_non pa_nil)))) (nomark _)) (pe_one (pe_cl D.met hr (by decide) (by rfl) pass0 (pa_cons (pv 2) pa_nil))))), ?_⟩
  rintro E0 σ H ⟨a, l, v, c, e, u, rfl, b, xs, rfl, hb, pd⟩ q
  obtain ⟨hs, dp, sh, ev⟩ := one_ok hy
  obtain ⟨x0, e0, a0, C0, t0, rfl, h0, g0, X0, n0, _⟩ := ox_get hb pd 4 rfl
  obtain ⟨x1, e1, a1, C1, t1, rfl, h1, g1, X1, n1, _⟩ := ox_get hb pd 5 rfl
  obtain ⟨x2, e2, a2, C2, t2, rfl, h2, g2, X2, n2, _⟩ := ox_get hb pd 6 rfl
  refine ⟨_, rfl, b, _, _, _, rfl, rfl, SqL.of hb, e0, a0, C0, t0, _, y, rfl, h0, g0, X0, n0, rfl, ?_⟩
  refine ⟨_, rfl, b, _, _, _, rfl, rfl, SqL.of hb, e1, a1, C1, t1, _, y, rfl, h1, g1, X1, n1, rfl, ?_⟩
  refine ⟨_, rfl, b, _, _, _, rfl, rfl, SqL.of hb, e2, a2, C2, t2, _, .non, rfl, h2, g2, X2, n2, rfl, ?_⟩
  refine ⟨by show 3 ≤ sizeLine; decide, fun p hp => ⟨_, rfl, _, rfl, by show 3 ≤ sizeLine; decide, fun p2 hp2 => ?_⟩⟩
  refine ⟨_, _, .tup (SqT.of (same_new hp2 _ _ upd_same)) (.cons (dp _ _) (.cons (dp _ _) (.cons .non .nil))), .tup (SqT.of upd_same) (.cons (dp _ _) (.cons (dp _ _) (.cons .non .nil))), sh, sh, ?_⟩
  rw [ev]
  exact ⟨_, rfl, iteT ⟨_, rfl, v, rfl, fun H' _ => q _ _ rfl⟩⟩
end
section
variable {P : Program} {w : World} {K : PySem.W.Frag} {mg : Str → Option Value} {base : Heap} {f : Addr} {fd : FuncData}
theorem ok_law (F : Fun K "law" "law" sLaw f fd) (D : Defs P w K mg base) : FnOk P w K mg base CX0 5 f fd ["_law_script"] (spLaw K) := by
  refine F.ok scLaw (fun vs H Q E h => ?_) (fun cdv A outer s H vs Q E hr h => ?_)
  · obtain ⟨x, ns, rfl, _⟩ := h
    rfl
  · obtain ⟨a, ns, rfl, hS, hlen, q⟩ := h
    rw [bodyLaw]
    have hr' : Room 4 (XW P w K mg base f cdv A outer s H E).A := hr
    have tail : HoR (XW P w K mg base f cdv A outer s H E) [stL 5, stL 6, stL 7, stL 8] (fun σ H => ∃ y d, (y, d) ∈ ones ∧ W3 y σ H) (fun v _ => v = .bl true) := by
      refine HoR.mono (HoR.ex (ι := { z : V × PyData // z ∈ ones }) (p := fun z => W3 z.1.1) fun z => HoR.cons (hW5 D hr' z.1.1) (HoR.cons (hW6 D hr' z.1.1) (HoR.cons (hW7 z.1.1 (one_ok z.2).1) (hW8 D hr' z.2)))) ?_
      rintro σ H ⟨y, d, hm, h⟩
      exact ⟨⟨(y, d), hm⟩, h⟩
    obtain ⟨t, ht, hq⟩ := HoR.cons (hW0 D hr') (HoR.cons (hW1 D hr') (HoR.cons (hW2 D hr') (HoR.cons (hW3 D hr') (HoR.cons (hW4 D hr') tail))))
    exact ⟨t, ht, hq _ _ _ ⟨a, ns, rfl, hS⟩ fun v H' e => by
      subst e
      exact q H'⟩
end
end Tx
set_option Elab.async false
set_option linter.all false
set_option maxRecDepth 100000
set_option maxHeartbeats 8000000
namespace Tx
open PySem PySem.Spec PyProof.Rows L2 Cm ErV Wl
abbrev bmV : List Value := [.type "ValueError", .type "Exception", .type "BaseException", .type "object"]
/-- all that is asked of the classes, as one check -/
def excB (K : PySem.W.Frag) (D : Addr) : Bool :=
  decide (PySem.W.findIn K (.ref D) "__getattribute__" = some (some (.builtin "BaseException.__getattribute__"))) && (decide (PySem.W.findIn K (.ref D) "__getattr__" = some none) && (decide (PySem.W.subIn K (.ref D) (.type "BaseException") = some true) && (PySem.W.hasDictIn K D &&
  (decide (PySem.W.findIn K (.ref D) "__class__" = some (some (.builtin "object.__class__"))) && (decide (PySem.W.specialIn K (.builtin "object.__class__") "__get__" = some (some (.builtin "getset_descriptor.__get__"))) && (decide (PySem.W.takesIn K (.builtin "object.__class__") = some true) && decide (PySem.W.mroIn K D (.type "object") = some true)))))))
theorem excB_ok {K : PySem.W.Frag} {D : Addr} (h : excB K D = true) : ExcC K D := by
  simp only [excB, Bool.and_eq_true, decide_eq_true_eq] at h
  obtain ⟨h1, h2, h3, h4, h5, h6, h7, h8⟩ := h
  exact ⟨h1, h2, h3, h4, h5, h6, h7, h8⟩
def kdB (K : PySem.W.Frag) (CM : Addr) (tbl : List (Str × Addr)) (p : Str × Addr) : Bool :=
  tbl.all (fun q => decide (PySem.W.kitOne K (.ref p.2) (.ref q.2) = some (q.1 == p.1))) && (decide (PySem.W.kitOne K (.ref p.2) (.ref CM) = some true) && (decide (PySem.W.kitOne K (.ref p.2) (.type "ValueError") = some true) && excB K p.2))
theorem kdB_ok {K : PySem.W.Frag} {mg : Str → Option Value} {CM : Addr} {tbl : List (Str × Addr)} (hm : ∀ nm ∈ clN, ∃ C, (nm, C) ∈ tbl) (hg : ∀ p ∈ tbl, mg p.1 = some (.ref p.2)) (mM : mg "MountError" = some (.ref CM)) (hT : tbl.all (kdB K CM tbl) = true) : ∀ p ∈ tbl, Kd K mg p.2 p.1 := by
  intro p hp
  have h := List.all_eq_true.mp hT p hp
  simp only [kdB, Bool.and_eq_true, decide_eq_true_eq, List.all_eq_true] at h
  obtain ⟨h1, h2, h3, h4⟩ := h
  exact ⟨fun nm hn => let ⟨C, hC⟩ := hm nm hn; ⟨C, hg _ hC, h1 _ hC⟩, ⟨CM, mM, h2⟩, h3, excB_ok h4⟩
def plB (K : PySem.W.Frag) (D : Addr) : Bool := PySem.W.excIn K D bmV "ValueError.__new__" && PySem.W.keepIn K (.ref D)
theorem plB_ok {K : PySem.W.Frag} {mg : Str → Option Value} {nm : Str} {D : Addr} (g : mg nm = some (.ref D)) (k : Kd K mg D nm) (h : plB K D = true) : ErC K mg nm := by
  simp only [plB, Bool.and_eq_true] at h
  exact ⟨D, g, h.1, h.2, k⟩
def oexB (K : PySem.W.Frag) (C : Addr) : Bool := match K.lookup C with
  | some ⟨.type "type", _, .cls cd, sl⟩ => (match cd.mro, sl.toList with
    | .ref E :: bm, [_, _, _, _, some (.builtin n), _] => E == C && (n == "ValueError.__new__" && (!cd.hasDel && (cd.hasDict && PySem.HandSPX.refsVE bm)))
    | _, _ => false)
  | _ => false
theorem oexB_ok {K : PySem.W.Frag} {C : Addr} (q : oexB K C = true) : ∃ nm q N bs bm sn sub ab col dd k0 k1 k2 k3 k5, K.lookup C = some (excClassObj nm q C N bs bm true sn sub ab col dd k0 k1 k2 k3 k5 "ValueError.__new__") ∧ PySem.HandSPX.refsVE bm = true := by
  unfold oexB at q
  split at q
  · rename_i dd cd sl ho
    split at q
    · rename_i E bm k0 k1 k2 k3 n k5 hm hs
      simp only [Bool.and_eq_true, beq_iff_eq, Bool.not_eq_true'] at q
      obtain ⟨rfl, rfl, hdel, hdct, hv⟩ := q
      obtain ⟨nm, bs, mro, ns, qn, hd, sn, sub, ab, col, del⟩ := cd
      dsimp only at hm hdel hdct
      subst hm hdel hdct
      obtain ⟨l⟩ := sl
      dsimp only at hs
      subst hs
      exact ⟨_, _, _, _, bm, _, _, _, _, _, _, _, _, _, _, ho, hv⟩
    · cases q
  · cases q
/-- a class with an own __init__ -/
structure OxF (K : PySem.W.Frag) (C fI : Addr) (f : Str) : Prop where
  cl : oexB K C = true
  sa : PySem.W.findIn K (.ref C) "__setattr__" = some (some (.builtin "object.__setattr__"))
  ex : PySem.W.subIn K (.ref C) (.type "BaseException") = some true
  ty : PySem.W.typeIn K (.ref C) = some (.type "type")
  kc : PySem.W.keepIn K (.ref C) = true
  x : xfB K C = true
  no : PySem.W.findIn K (.ref C) f = some none
  iC : PySem.W.findIn K (.ref C) "__init__" = some (some (.ref fI))
  tI : PySem.W.typeIn K (.ref fI) = some (.type "function")
theorem OxF.T {K : PySem.W.Frag} {C fI : Addr} {f : Str} (o : OxF K C fI f) : OexC K C := ⟨oexB_ok o.cl, o.sa, o.ex, o.ty, o.kc⟩
structure BiF (K : PySem.W.Frag) : Prop where
  isin : PySem.W.nsIn K mainGlobals "isinstance" = some none
  int : PySem.W.nsIn K mainGlobals "int" = some none
  len : PySem.W.nsIn K mainGlobals "len" = some none
  ve : PySem.W.nsIn K mainGlobals "ValueError" = some none
theorem BiF.bi {K : PySem.W.Frag} {h : Heap} {mg : Str → Option Value} (b : BiF K) (X : K.In h) (G : h.Ns mainGlobals mg) : Bi mg :=
  ⟨PySem.W.mg_none_of X G b.isin, PySem.W.mg_none_of X G b.int, PySem.W.mg_none_of X G b.len, PySem.W.mg_none_of X G b.ve⟩
structure MeF (K : PySem.W.Frag) (CM : Addr) : Prop where
  sg : PySem.W.specialIn K (.ref CM) "__getattribute__" = some (some (.builtin "type.__getattribute__"))
  rd : PySem.W.readsIn K CM (.type "type") = true
  vV : PySem.W.findCls K (.ref CM) (.type "type") "__init__" = some (.val (.builtin "ValueError.__init__"))
  b : PySem.W.subIn K (.ref CM) (.type "BaseException") = some true
  d : PySem.W.hasDictIn K CM = true
  t : PySem.W.typeIn K (.ref CM) = some (.type "type")
structure RzF (K : PySem.W.Frag) (C CM : Addr) : Prop where
  b : PySem.W.subIn K (.ref C) (.type "BaseException") = some true
  t : PySem.W.typeIn K (.ref C) = some (.type "type")
  s : PySem.W.subIn K (.ref C) (.ref CM) = some true
theorem RzF.rz {K : PySem.W.Frag} {C CM : Addr} (r : RzF K C CM) (m : MeF K CM) : Rz K C CM := ⟨r.b, r.t, PySem.W.exm_ref m.b m.d m.t r.s⟩
theorem funD_mk {K : PySem.W.Frag} {f : Addr} {oc dV kV doc pm cdv ct : Value} {od an : Option Addr} {osl : Array (Option Value)} (l : K.lookup f = some ⟨oc, od, .func (PySem.W.fnOf "__init__" "NoText.__init__" (defArgs sTextI) (defBody sTextI) (defScope sTextI) dV kV doc pm an cdv ct), osl⟩) (c : PySem.W.codeIn K cdv "NoText.__init__" = true) (k : PySem.W.keepIn K (.ref f) = true) (hD : DflV K dV [.non]) :
    FunD K "__init__" "NoText.__init__" (defArgs sTextI) (defBody sTextI) (defScope sTextI) [.non] [] f (PySem.W.fnOf "__init__" "NoText.__init__" (defArgs sTextI) (defBody sTextI) (defScope sTextI) dV kV doc pm an cdv ct) := ⟨⟨_, _, _, _, _, _, _, _, _, _, rfl, l, c, hD, .inl rfl⟩, k⟩
theorem dfl_mk {K : PySem.W.Frag} {T : Addr} {o : Obj} {n : Nat} (l : K.lookup T = some o) (d : o.data = .seq #[.none] n) : DflV K (.ref T) [.non] := .inr ⟨by simp, T, o, [.none], n, rfl, l, d, .cons rfl .nil⟩
/-- how the __init__ with a default binds -/
theorem bindsD {K : PySem.W.Frag} {f : Addr} {fd : FuncData} (F : FunD K "__init__" "NoText.__init__" (defArgs sTextI) (defBody sTextI) (defScope sTextI) [.non] [] f fd) :
    Binds K fd ["self", "line"] [] ∧ (∃ ds, Binds K fd ["self", "line"] ds ∧ Vals [.non] ds) ∧ ∀ (s : Shared) (a v : Value), K.In s.heap → BindsTo s fd ⟨[a], [("line", v)]⟩ ((["self", "line"] : List Str).zip [a, v]) := by
  refine ⟨?_, ?_, ?_⟩
  · obtain ⟨ds, vd, b⟩ := F.binds1 (ps := ["self", "line"]) 2 1 (by simp) rfl fun T kV doc pm an cdv ct us its hu hi => match us, its, hu, hi with | [_, _], [_], _, _ => ⟨_, rfl, rfl⟩
    cases vd
    exact b
  · obtain ⟨ds, vd, b⟩ := F.binds1 (ps := ["self", "line"]) 1 0 (by simp) rfl fun T kV doc pm an cdv ct us its hu hi => match us, its, hu, hi with | [_], [_], _, _ => ⟨_, rfl, rfl⟩
    exact ⟨ds, b, vd⟩
  · intro s a v X
    obtain ⟨oc, od, dV, kV, doc, pm, an, cdv, ct, osl, rfl, lk, hcd, hD, hK⟩ := F.ex
    rcases hD with ⟨e, _⟩ | ⟨_, T, o, its, m, rfl, lT, oT, rT⟩
    · cases e
    · match its, rT with
      | [u], _ =>
        have key : ∃ k, bindArgs (PySem.W.fnOf "__init__" "NoText.__init__" (defArgs sTextI) (defBody sTextI) (defScope sTextI) (.ref T) kV doc pm an cdv ct) ⟨[a], [("line", v)]⟩ = seqItems? (.ref T) >>= k ∧ k (some [u].toArray) = pure ((["self", "line"] : List Str).zip [a, v]) := ⟨_, rfl, rfl⟩
        obtain ⟨k, e1, e2⟩ := key
        refine BindsTo.of_looks fun M => ?_
        rw [e1]
        exact looks_items X lT oT (.of_pure e2)
theorem law_at {l : PySem.W.OpenLaw} {w : World} {K : PySem.W.Frag} {h : Heap} {mg : Str → Option Value} {fa CM fP fM fT a0 a1 a2 a3 a4 a5 a6 a7 a8 a9 a10 a11 a12 a13 a14 a15 a16 a17 a18 a19 : Addr} {fdP fdM fdT : FuncData} (X : K.In h) (G : h.Ns mainGlobals mg) (hfa : mg "law" = some (.ref fa))
    (w1 : FnFact K "_law_cell_at" sCell) (w2 : FnFact K "_law_digit" sDigit) (w3 : FnFact K "_law_class" sClass) (w4 : FnFact K "_law_plain" sPlain) (w5 : FnFact K "_law_bare" sBare) (w6 : FnFact K "_law_is_met" sMet) (w7 : FnFact K "law" sLaw)
    (aM : PySem.W.nsIn K mainGlobals "MountError" = some (some (.ref CM))) (mM : MeF K CM) (bi : BiF K)
    (n0 : PySem.W.nsIn K mainGlobals "AtRoot" = some (some (.ref a0)))
    (n1 : PySem.W.nsIn K mainGlobals "Busy" = some (some (.ref a1)))
    (n2 : PySem.W.nsIn K mainGlobals "Left" = some (some (.ref a2)))
    (n3 : PySem.W.nsIn K mainGlobals "Locked" = some (some (.ref a3)))
    (n4 : PySem.W.nsIn K mainGlobals "Loop" = some (some (.ref a4)))
    (n5 : PySem.W.nsIn K mainGlobals "NoDeed" = some (some (.ref a5)))
    (n6 : PySem.W.nsIn K mainGlobals "NoLine" = some (some (.ref a6)))
    (n7 : PySem.W.nsIn K mainGlobals "NoMount" = some (some (.ref a7)))
    (n8 : PySem.W.nsIn K mainGlobals "NoNumber" = some (some (.ref a8)))
    (n9 : PySem.W.nsIn K mainGlobals "NoRight" = some (some (.ref a9)))
    (n10 : PySem.W.nsIn K mainGlobals "NoSpace" = some (some (.ref a10)))
    (n11 : PySem.W.nsIn K mainGlobals "NoTree" = some (some (.ref a11)))
    (n12 : PySem.W.nsIn K mainGlobals "NotDir" = some (some (.ref a12)))
    (n13 : PySem.W.nsIn K mainGlobals "NotMount" = some (some (.ref a13)))
    (n14 : PySem.W.nsIn K mainGlobals "Shared" = some (some (.ref a14)))
    (n15 : PySem.W.nsIn K mainGlobals "Unbindable" = some (some (.ref a15)))
    (n16 : PySem.W.nsIn K mainGlobals "Unsure" = some (some (.ref a16)))
    (n17 : PySem.W.nsIn K mainGlobals "NoPath" = some (some (.ref a17)))
    (n18 : PySem.W.nsIn K mainGlobals "TooMany" = some (some (.ref a18)))
    (n19 : PySem.W.nsIn K mainGlobals "NoText" = some (some (.ref a19)))
    (hT : ([("AtRoot", a0), ("Busy", a1), ("Left", a2), ("Locked", a3), ("Loop", a4), ("NoDeed", a5), ("NoLine", a6), ("NoMount", a7), ("NoNumber", a8), ("NoRight", a9), ("NoSpace", a10), ("NoTree", a11), ("NotDir", a12), ("NotMount", a13), ("Shared", a14), ("Unbindable", a15), ("Unsure", a16), ("NoPath", a17), ("TooMany", a18), ("NoText", a19)] : List (Str × Addr)).all (kdB K CM [("AtRoot", a0), ("Busy", a1), ("Left", a2), ("Locked", a3), ("Loop", a4), ("NoDeed", a5), ("NoLine", a6), ("NoMount", a7), ("NoNumber", a8), ("NoRight", a9), ("NoSpace", a10), ("NoTree", a11), ("NotDir", a12), ("NotMount", a13), ("Shared", a14), ("Unbindable", a15), ("Unsure", a16), ("NoPath", a17), ("TooMany", a18), ("NoText", a19)]) = true) (hP : ([a0, a1, a2, a3, a4, a5, a6, a7, a8, a9, a10, a11, a12, a13, a14, a16, a15] : List Addr).all (plB K) = true)
    (rB : RzF K a1 CM) (rT : RzF K a19 CM) (oP : OxF K a17 fP "at") (oM : OxF K a18 fM "many") (oT : OxF K a19 fT "line")
    (FP : Fun K "__init__" "NoPath.__init__" sPathI fP fdP) (FM : Fun K "__init__" "TooMany.__init__" sManyI fM fdM) (FT : FunD K "__init__" "NoText.__init__" (defArgs sTextI) (defBody sTextI) (defScope sTextI) [.non] [] fT fdT) :
    ∃ fd : FuncData, (∀ (s : Shared) (v : Value), BindsTo s fd ⟨[v], []⟩ [("_law_script", v)]) ∧ ∀ base : Heap, K.In base → base.Ns mainGlobals mg → FnOk l.prog w K mg base CX0 5 fa fd ["_law_script"] (spLaw K) := by
  have B : Bi mg := bi.bi X G
  have gM := PySem.W.mg_of X G aM
  have M : Me K mg CM := ⟨gM, mM.sg, mM.rd, mM.vV⟩
  have g0 := PySem.W.mg_of X G n0
  have g1 := PySem.W.mg_of X G n1
  have g2 := PySem.W.mg_of X G n2
  have g3 := PySem.W.mg_of X G n3
  have g4 := PySem.W.mg_of X G n4
  have g5 := PySem.W.mg_of X G n5
  have g6 := PySem.W.mg_of X G n6
  have g7 := PySem.W.mg_of X G n7
  have g8 := PySem.W.mg_of X G n8
  have g9 := PySem.W.mg_of X G n9
  have g10 := PySem.W.mg_of X G n10
  have g11 := PySem.W.mg_of X G n11
  have g12 := PySem.W.mg_of X G n12
  have g13 := PySem.W.mg_of X G n13
  have g14 := PySem.W.mg_of X G n14
  have g15 := PySem.W.mg_of X G n15
  have g16 := PySem.W.mg_of X G n16
  have g17 := PySem.W.mg_of X G n17
  have g18 := PySem.W.mg_of X G n18
  have g19 := PySem.W.mg_of X G n19
  have kd := kdB_ok (mg := mg) (CM := CM) (tbl := [("AtRoot", a0), ("Busy", a1), ("Left", a2), ("Locked", a3), ("Loop", a4), ("NoDeed", a5), ("NoLine", a6), ("NoMount", a7), ("NoNumber", a8), ("NoRight", a9), ("NoSpace", a10), ("NoTree", a11), ("NotDir", a12), ("NotMount", a13), ("Shared", a14), ("Unbindable", a15), ("Unsure", a16), ("NoPath", a17), ("TooMany", a18), ("NoText", a19)]) (fun nm hn => ?_) (fun p hp => ?_) gM hT
  rotate_left
  · simp only [clN, List.mem_cons, List.not_mem_nil, or_false] at hn
    rcases hn with rfl | rfl | rfl | rfl | rfl | rfl | rfl | rfl | rfl | rfl | rfl | rfl | rfl | rfl | rfl | rfl | rfl | rfl | rfl | rfl
    · exact ⟨a0, by simp⟩
    · exact ⟨a1, by simp⟩
    · exact ⟨a2, by simp⟩
    · exact ⟨a3, by simp⟩
    · exact ⟨a4, by simp⟩
    · exact ⟨a5, by simp⟩
    · exact ⟨a6, by simp⟩
    · exact ⟨a7, by simp⟩
    · exact ⟨a8, by simp⟩
    · exact ⟨a9, by simp⟩
    · exact ⟨a10, by simp⟩
    · exact ⟨a11, by simp⟩
    · exact ⟨a12, by simp⟩
    · exact ⟨a13, by simp⟩
    · exact ⟨a14, by simp⟩
    · exact ⟨a15, by simp⟩
    · exact ⟨a16, by simp⟩
    · exact ⟨a17, by simp⟩
    · exact ⟨a18, by simp⟩
    · exact ⟨a19, by simp⟩
  · simp only [List.mem_cons, List.not_mem_nil, or_false] at hp
    rcases hp with rfl | rfl | rfl | rfl | rfl | rfl | rfl | rfl | rfl | rfl | rfl | rfl | rfl | rfl | rfl | rfl | rfl | rfl | rfl | rfl
    · exact g0
    · exact g1
    · exact g2
    · exact g3
    · exact g4
    · exact g5
    · exact g6
    · exact g7
    · exact g8
    · exact g9
    · exact g10
    · exact g11
    · exact g12
    · exact g13
    · exact g14
    · exact g15
    · exact g16
    · exact g17
    · exact g18
    · exact g19
  have k0 : Kd K mg a0 "AtRoot" := kd ("AtRoot", a0) (by simp)
  have k1 : Kd K mg a1 "Busy" := kd ("Busy", a1) (by simp)
  have k2 : Kd K mg a2 "Left" := kd ("Left", a2) (by simp)
  have k3 : Kd K mg a3 "Locked" := kd ("Locked", a3) (by simp)
  have k4 : Kd K mg a4 "Loop" := kd ("Loop", a4) (by simp)
  have k5 : Kd K mg a5 "NoDeed" := kd ("NoDeed", a5) (by simp)
  have k6 : Kd K mg a6 "NoLine" := kd ("NoLine", a6) (by simp)
  have k7 : Kd K mg a7 "NoMount" := kd ("NoMount", a7) (by simp)
  have k8 : Kd K mg a8 "NoNumber" := kd ("NoNumber", a8) (by simp)
  have k9 : Kd K mg a9 "NoRight" := kd ("NoRight", a9) (by simp)
  have k10 : Kd K mg a10 "NoSpace" := kd ("NoSpace", a10) (by simp)
  have k11 : Kd K mg a11 "NoTree" := kd ("NoTree", a11) (by simp)
  have k12 : Kd K mg a12 "NotDir" := kd ("NotDir", a12) (by simp)
  have k13 : Kd K mg a13 "NotMount" := kd ("NotMount", a13) (by simp)
  have k14 : Kd K mg a14 "Shared" := kd ("Shared", a14) (by simp)
  have k15 : Kd K mg a15 "Unbindable" := kd ("Unbindable", a15) (by simp)
  have k16 : Kd K mg a16 "Unsure" := kd ("Unsure", a16) (by simp)
  have k17 : Kd K mg a17 "NoPath" := kd ("NoPath", a17) (by simp)
  have k18 : Kd K mg a18 "TooMany" := kd ("TooMany", a18) (by simp)
  have k19 : Kd K mg a19 "NoText" := kd ("NoText", a19) (by simp)
  have hpl := List.all_eq_true.mp hP
  have hE : ∀ nm ∈ plN, ErC K mg nm := by
    intro nm hn
    simp only [plN, List.mem_cons, List.not_mem_nil, or_false] at hn
    rcases hn with rfl | rfl | rfl | rfl | rfl | rfl | rfl | rfl | rfl | rfl | rfl | rfl | rfl | rfl | rfl | rfl | rfl
    · exact plB_ok g0 k0 (hpl a0 (by simp))
    · exact plB_ok g1 k1 (hpl a1 (by simp))
    · exact plB_ok g2 k2 (hpl a2 (by simp))
    · exact plB_ok g3 k3 (hpl a3 (by simp))
    · exact plB_ok g4 k4 (hpl a4 (by simp))
    · exact plB_ok g5 k5 (hpl a5 (by simp))
    · exact plB_ok g6 k6 (hpl a6 (by simp))
    · exact plB_ok g7 k7 (hpl a7 (by simp))
    · exact plB_ok g8 k8 (hpl a8 (by simp))
    · exact plB_ok g9 k9 (hpl a9 (by simp))
    · exact plB_ok g10 k10 (hpl a10 (by simp))
    · exact plB_ok g11 k11 (hpl a11 (by simp))
    · exact plB_ok g12 k12 (hpl a12 (by simp))
    · exact plB_ok g13 k13 (hpl a13 (by simp))
    · exact plB_ok g14 k14 (hpl a14 (by simp))
    · exact plB_ok g16 k16 (hpl a16 (by simp))
    · exact plB_ok g15 k15 (hpl a15 (by simp))
  obtain ⟨f1, d1, b1, F1⟩ := w1
  obtain ⟨f2, d2, b2, F2⟩ := w2
  obtain ⟨f3, d3, b3, F3⟩ := w3
  obtain ⟨f4, d4, b4, F4⟩ := w4
  obtain ⟨f5, d5, b5, F5⟩ := w5
  obtain ⟨f6, d6, b6, F6⟩ := w6
  obtain ⟨f7, d7, b7, F7⟩ := w7
  have e := hfa.symm.trans (PySem.W.mg_of X G b7)
  cases e
  have c1 := F1.binds (ps := ["_law_script", "_law_k"]) fun _ _ _ _ _ _ us hl => match us, hl with | [_, _], _ => rfl
  have c2 := F2.binds (ps := ["_law_state", "_law_base"]) fun _ _ _ _ _ _ us hl => match us, hl with | [_, _], _ => rfl
  have c3 := F3.binds (ps := ["_law_e"]) fun _ _ _ _ _ _ us hl => match us, hl with | [_], _ => rfl
  have c4 := F4.binds (ps := ["_law_said"]) fun _ _ _ _ _ _ us hl => match us, hl with | [_], _ => rfl
  have c5 := F5.binds (ps := []) fun _ _ _ _ _ _ us hl => match us, hl with | [], _ => rfl
  have c6 := F6.binds (ps := ["_law_said"]) fun _ _ _ _ _ _ us hl => match us, hl with | [_], _ => rfl
  have cP := FP.binds (ps := ["self", "at"]) fun _ _ _ _ _ _ us hl => match us, hl with | [_, _], _ => rfl
  have cM := FM.binds (ps := ["self", "many"]) fun _ _ _ _ _ _ us hl => match us, hl with | [_, _], _ => rfl
  obtain ⟨cT, ⟨dsT, cT0, vT0⟩, cTk⟩ := bindsD FT
  have kP : ∀ (s : Shared) (a v : Value), K.In s.heap → BindsTo s fdP ⟨[a], [("at", v)]⟩ ((["self", "at"] : List Str).zip [a, v]) := by
    obtain ⟨_, _, _, _, _, _, _, _, _, e, _, _⟩ := id FP.ex
    subst e
    exact fun s a v _ => .of_eq rfl
  have kM : ∀ (s : Shared) (a v : Value), K.In s.heap → BindsTo s fdM ⟨[a], [("many", v)]⟩ ((["self", "many"] : List Str).zip [a, v]) := by
    obtain ⟨_, _, _, _, _, _, _, _, _, e, _, _⟩ := id FM.ex
    subst e
    exact fun s a v _ => .of_eq rfl
  obtain ⟨oc7, od7, kV7, dc7, pm7, an7, cd7, ct7, sl7, e7, _, _⟩ := id F7.ex
  subst e7
  refine ⟨PySem.W.fnOf "law" "law" (defArgs sLaw) (defBody sLaw) (defScope sLaw) .none kV7 dc7 pm7 an7 cd7 ct7, fun s v => .of_eq rfl, fun base _ _ => ?_⟩
  have OP : Ox l.prog w K mg base "NoPath" "at" a17 fP fdP := ⟨g17, oP.T, xfB_ok oP.x, oP.no, oP.iC, oP.tI, ok_NoPath FP M, k17, cP, kP⟩
  have OM : Ox l.prog w K mg base "TooMany" "many" a18 fM fdM := ⟨g18, oM.T, xfB_ok oM.x, oM.no, oM.iC, oM.tI, ok_TooMany FM M, k18, cM, kM⟩
  have OT : Ox l.prog w K mg base "NoText" "line" a19 fT fdT := ⟨g19, oT.T, xfB_ok oT.x, oT.no, oT.iC, oT.tI, ok_NoText FT M, k19, cT, cTk⟩
  have D : Defs l.prog w K mg base :=
    { cell := .of X G b1 F1 c1 (ok_cell F1 B)
      dig := .of X G b2 F2 c2 (ok_digit F2 B)
      cls := .of X G b3 F3 c3 (ok_class F3 B)
      plain := .of X G b4 F4 c4 (ok_plain F4 hE)
      bare := .of X G b5 F5 c5 (ok_bare F5 hE)
      met := .of X G b6 F6 c6 (ok_met F6 B F3 (PySem.W.mg_of X G b3) c3 (hE _ (by decide +kernel)) (fun D hD => by
        have e := g1.symm.trans hD
        cases e
        exact rB.rz mM) gM OT (rT.rz mM) wd_NoText)
      path := ⟨_, _, _, OP⟩
      many := ⟨_, _, _, OM⟩
      text := ⟨_, _, _, _, OT, cT0, vT0⟩ }
  exact ok_law F7 D
end Tx
open PySem PySem.W PyProof.Rows
set_option Elab.async false
set_option linter.all false
set_option maxRecDepth 100000 in
set_option maxHeartbeats 0 in
theorem PySem.Challenge.cw_spreadmounts_k21_errors_by_themselves_holds : PySem.Challenge.rw_spreadmounts_k21_errors_by_themselves.Holds := by
  w_on; o_law; k_head; (case hw => w_witness2)
  k_fill
  refine L2.walk_of (l := PySem.Challenge.rw_spreadmounts_k21_errors_by_themselves) (n := 63) (k := 5) (x := "_law_script") (CX := fun _ => L2.CX0) (sp := fun w => Tx.spLaw _) rfl (by decide) rfl ⟨rfl, by decide, by decide⟩ (fun w h Y => PySem.W.kIn_of Y) ?F (fun _ _ a ns hl _ hS => ⟨a, ns, rfl, hS, hl, fun _ => rfl⟩) (fun _ _ _ _ _ h => h)
  case F =>
    intro w mg fa h KX G hmg
    replace hmg : mg "law" = some (.ref fa) := hmg
    refine' Tx.law_at KX G hmg ?w1 ?w2 ?w3 ?w4 ?w5 ?w6 ?w7 ?aM ?mM ?bi ?n0 ?n1 ?n2 ?n3 ?n4 ?n5 ?n6 ?n7 ?n8 ?n9 ?n10 ?n11 ?n12 ?n13 ?n14 ?n15 ?n16 ?n17 ?n18 ?n19 ?hT ?hP ?rB ?rT ?oP ?oM ?oT ?FP ?FM ?FT
    (case aM => k_is)
    (case n0 => k_is)
    (case n1 => k_is)
    (case n2 => k_is)
    (case n3 => k_is)
    (case n4 => k_is)
    (case n5 => k_is)
    (case n6 => k_is)
    (case n7 => k_is)
    (case n8 => k_is)
    (case n9 => k_is)
    (case n10 => k_is)
    (case n11 => k_is)
    (case n12 => k_is)
    (case n13 => k_is)
    (case n14 => k_is)
    (case n15 => k_is)
    (case n16 => k_is)
    (case n17 => k_is)
    (case n18 => k_is)
    (case n19 => k_is)
    (case mM => constructor <;> k_is)
    (case bi => constructor <;> k_is)
    (case rB => refine' ⟨?rz0a, ?rz0b, ?rz0c⟩; (case rz0a => k_is); (case rz0b => k_is); (case rz0c => k_is))
    (case rT => refine' ⟨?rz1a, ?rz1b, ?rz1c⟩; (case rz1a => k_is); (case rz1b => k_is); (case rz1c => k_is))
    (case oP => refine' ⟨?o0cl, ?o0sa, ?o0ex, ?o0ty, ?o0kc, ?o0xf, ?o0no, ?o0ic, ?o0ti⟩; (case o0ic => k_is); (case o0cl => kernel_rfl); (case o0sa => k_is); (case o0ex => k_is); (case o0ty => k_is); (case o0kc => k_is); (case o0xf => kernel_rfl); (case o0no => k_is); (case o0ti => k_is))
    (case oM => refine' ⟨?o1cl, ?o1sa, ?o1ex, ?o1ty, ?o1kc, ?o1xf, ?o1no, ?o1ic, ?o1ti⟩; (case o1ic => k_is); (case o1cl => kernel_rfl); (case o1sa => k_is); (case o1ex => k_is); (case o1ty => k_is); (case o1kc => k_is); (case o1xf => kernel_rfl); (case o1no => k_is); (case o1ti => k_is))
    (case oT => refine' ⟨?o2cl, ?o2sa, ?o2ex, ?o2ty, ?o2kc, ?o2xf, ?o2no, ?o2ic, ?o2ti⟩; (case o2ic => k_is); (case o2cl => kernel_rfl); (case o2sa => k_is); (case o2ex => k_is); (case o2ty => k_is); (case o2kc => k_is); (case o2xf => kernel_rfl); (case o2no => k_is); (case o2ti => k_is))
    (case FP => refine' L2.fun_mk ?fl0 ?fc0 ?fk0; (case fl0 => k_is); (case fc0 => k_is); (case fk0 => k_is))
    (case FM => refine' L2.fun_mk ?fl1 ?fc1 ?fk1; (case fl1 => k_is); (case fc1 => k_is); (case fk1 => k_is))
    (case FT => refine' Tx.funD_mk ?tl ?tc ?tk ?td; (case tl => k_is); (case tc => k_is); (case tk => k_is); (case td => refine' Tx.dfl_mk ?tlt ?tdt; (case tlt => k_is); (case tdt => rfl)))
    (case hT => kernel_rfl)
    (case hP => kernel_rfl)
    all_goals (refine' Cm.FnFact.of ?a ?l ?c ?k; (case a => k_is); (case l => k_is); (case c => k_is); (case k => k_is))
