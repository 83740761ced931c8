import PyProof.Rows.All
import Wide.All
import OpenK.AllK
import Wide.FinOn
import HandS.ForMost
import HandS.Exc
import HandS.TryOnly
import HandS.TryMany
import HandS.ExcOwn
import HandS.WordsExc
import HandS.IsInst
import HandS.Wide
import HandS.Lambda
import HandS.EndTab
import HandS.Evl
import HandS.ExcIs
import PySem.Challenge.RW_spreadmounts_k65_greatest_numbers
set_option Elab.async false
set_option linter.all false
set_option maxRecDepth 100000
set_option maxHeartbeats 4000000
namespace K65
open PySem PySem.Spec PyProof.Rows L2
/-! ### the text -/
def topS (i : Nat) : Stmt := PySem.Challenge.pw_spreadmounts_k65_greatest_numbers.main.body.getD i (.Pass ⟨0, 0, 0, 0⟩)
abbrev sWhole : Stmt := topS 4
abbrev sAfter : Stmt := topS 6
abbrev sBinds : Stmt := topS 7
abbrev sTo : Stmt := topS 8
abbrev sDigit : Stmt := topS 10
abbrev sPick : Stmt := topS 11
abbrev sRow : Stmt := topS 12
abbrev sTens : Stmt := topS 13
abbrev sDoubled : Stmt := topS 14
abbrev sRefused : Stmt := topS 15
abbrev sFewest : Stmt := topS 16
abbrev sRight : Stmt := topS 17
abbrev sLaw : Stmt := topS 18
theorem scWhole : FnScope ["thing", "low", "high"] ["thing", "low", "high"] (defScope sWhole) := ⟨rfl, rfl, rfl, by decide +kernel, rfl, by decide +kernel, by decide +kernel⟩
theorem scAfter : FnScope ["k", "found", "turn"] ["k"] (defScope sAfter) := ⟨rfl, rfl, rfl, by decide +kernel, rfl, by decide +kernel, by decide +kernel⟩
theorem scBinds : FnScope ["k", "found", "turn"] ["k"] (defScope sBinds) := ⟨rfl, rfl, rfl, by decide +kernel, rfl, by decide +kernel, by decide +kernel⟩
theorem scTo : FnScope ["n", "found", "many"] ["n"] (defScope sTo) := ⟨rfl, rfl, rfl, by decide +kernel, rfl, by decide +kernel, by decide +kernel⟩
theorem scDigit : FnScope ["_law_state", "_law_base", "_law_found", "_law_number"] ["_law_state", "_law_base"] (defScope sDigit) := ⟨rfl, rfl, rfl, by decide +kernel, rfl, by decide +kernel, by decide +kernel⟩
theorem scPick : FnScope ["_law_state", "_law_some"] ["_law_state", "_law_some"] (defScope sPick) := ⟨rfl, rfl, rfl, by decide +kernel, rfl, by decide +kernel, by decide +kernel⟩
theorem scRow : FnScope ["_law_found", "_law_k"] [] (defScope sRow) := ⟨rfl, rfl, rfl, by decide +kernel, rfl, by decide +kernel, by decide +kernel⟩
theorem scTens : FnScope ["_law_many", "_law_found", "_law_turn"] ["_law_many"] (defScope sTens) := ⟨rfl, rfl, rfl, by decide +kernel, rfl, by decide +kernel, by decide +kernel⟩
theorem scDoubled : FnScope ["_law_k", "_law_found", "_law_turn"] ["_law_k"] (defScope sDoubled) := ⟨rfl, rfl, rfl, by decide +kernel, rfl, by decide +kernel, by decide +kernel⟩
/-! ### the mathematics -/
def aN : Nat → Int
  | 0 => 1
  | n + 1 => aN n * (aN n + 1)
def bN : Nat → Int
  | 0 => 1
  | n + 1 => bN n * 2
def tN : Nat → Int
  | 0 => 1
  | n + 1 => tN n * 10
theorem aN_pos : ∀ n, 1 ≤ aN n
  | 0 => by decide
  | n + 1 => by
    have h := aN_pos n
    show 1 ≤ aN n * (aN n + 1)
    have h2 : 1 * 1 ≤ aN n * (aN n + 1) := Int.mul_le_mul h (by omega) (by omega) (by omega)
    omega
theorem aN_grow (n : Nat) : aN n < aN (n + 1) := by
  have h := aN_pos n
  show aN n < aN n * (aN n + 1)
  have h2 : aN n * 1 < aN n * (aN n + 1) := Int.mul_lt_mul_of_pos_left (by omega) (by omega)
  omega
theorem aN_mono {i j : Nat} (h : i ≤ j) : aN i ≤ aN j := by
  induction j with
  | zero =>
    have e : i = 0 := by omega
    subst e
    exact Int.le_refl _
  | succ j ih =>
    by_cases e : i = j + 1
    · subst e
      exact Int.le_refl _
    · have h1 := ih (by omega)
      have h2 := aN_grow j
      omega
theorem aN_bits : (aN 12).natAbs < 2 ^ 3000 := by decide +kernel
theorem aN_small {n : Nat} (h : n ≤ 12) : (aN n).natAbs < 2 ^ 3000 := by
  have h1 := aN_mono h
  have h2 := aN_pos n
  have h3 := aN_bits
  omega
theorem aN_wide {n : Nat} (h : n ≤ 12) : CMulW (aN n) (aN n + 1) := by
  have h1 := aN_small h
  have h2 := aN_pos n
  refine wide_mul (a := 3000) (b := 3001) h1 ?_ (by decide) (by decide) (by decide)
  have e : (2 : Nat) ^ 3001 = 2 ^ 3000 * 2 := Nat.pow_succ 2 3000
  omega
end K65
set_option Elab.async false
set_option linter.all false
set_option maxRecDepth 100000
set_option maxHeartbeats 4000000
namespace K65
open PySem PySem.Spec PyProof.Rows L2
/-! ### promises -/
inductive Wh (K : PySem.W.Frag) (H : Hp) : V → Int → Int → Bool → Prop
  | int (i lo hi : Int) : Wh K H (.int i) lo hi (decide (lo ≤ i) && decide (i ≤ hi))
  | bl (b : Bool) (lo hi : Int) : Wh K H (.bl b) lo hi false
  | other {x : V} {n : String} (lo hi : Int) (ty : TyX K H x (.type n)) (h : kitB n "int" = some false) : Wh K H x lo hi false
def spWhole (K : PySem.W.Frag) : Sp := fun vs H Q _ => ∃ x lo hi b, vs = [x, .int lo, .int hi] ∧ Wh K H x lo hi b ∧ Q (.bl b) H
def spAfter : Sp := fun vs H Q _ => ∃ k : Nat, vs = [.int k] ∧ k ≤ 12 ∧ Q (.int (aN k)) H
def spBinds : Sp := fun vs H Q _ => ∃ k : Nat, vs = [.int k] ∧ k ≤ 12 ∧ Q (.int (bN k)) H
/-- a value that is refused: the error of the class at C -/
def spBad (K : PySem.W.Frag) (C : Addr) (lo hi : Int) : Sp := fun vs H _ E => ∃ x, vs = [x] ∧ Wh K H x lo hi false ∧ E (.ref C) none H
/-- the names that stand as built-ins -/
structure Bi (mg : Str → Option Value) : Prop where
  isin : mg "isinstance" = none
  int : mg "int" = none
  bool : mg "bool" = none
  range : mg "range" = none
  len : mg "len" = none
/-- the error's class -/
structure No (K : PySem.W.Frag) (mg : Str → Option Value) (C M : Addr) : Prop where
  g : mg "NoNumber" = some (.ref C)
  gM : mg "MountError" = some (.ref M)
  x : PySem.W.excIn K C [.type "ValueError", .type "Exception", .type "BaseException", .type "object"] "ValueError.__new__" = true
  k : PySem.W.keepIn K (.ref C) = true
  b : PySem.W.subIn K (.ref C) (.type "BaseException") = some true
  t : PySem.W.typeIn K (.ref C) = some (.type "type")
  e : PySem.W.exmOne K (.ref C) (.ref C) = some true
section
variable {P : Program} {w : World} {K : PySem.W.Frag} {mg : Str → Option Value} {base : Heap}
theorem ok_whole {f : Addr} {fd : FuncData} {k : Nat} (F : Fun K "is_whole" "is_whole" sWhole f fd) (B : Bi mg) : FnOk P w K mg base CX0 (k + 1) f fd ["thing", "low", "high"] (spWhole K) := by
  refine F.ok scWhole (fun vs H Q E h => ?_) (fun cdv A outer s H vs Q E hr h => ?_)
  · obtain ⟨x, lo, hi, b, rfl, _⟩ := h
    rfl
  · obtain ⟨x, lo, hi, b, rfl, hw, q⟩ := h
    refine ⟨_, pss_one (ps_ret (pe_and (pe_callB call_isi (by rfl) B.isin (by decide +kernel) (pa_cons (pv 0) (pa_cons (pe_bltn (v := .ty "int") (by rfl) B.int (by decide +kernel) rfl) pa_nil)))
      (pe_and (pe_not (pe_callB call_isi (by rfl) B.isin (by decide +kernel) (pa_cons (pv 0) (pa_cons (pe_bltn (v := .ty "bool") (by rfl) B.bool (by decide +kernel) rfl) pa_nil))))
        (pe_one (pe_chain op_le op_le (pv 1) (pv 0) (pv 2)))))), ?_⟩
    cases hw with
    | int i =>
      refine ⟨_, rfl, _, .ty "int", _, _, true, rfl, .ty _, .base (.int i), kit_ty (by decide +kernel), _, rfl, iteT ?_⟩
      refine ⟨_, rfl, _, .ty "bool", _, _, false, rfl, .ty _, .base (.int i), kit_ty (by decide +kernel), _, rfl, _, rfl, iteT ?_⟩
      refine ⟨_, rfl, _, rfl, _, _, rfl, rfl, _, rfl, ite2 (fun h => ?_) (fun h => ?_)⟩
      · refine ⟨_, rfl, _, _, rfl, rfl, ?_⟩
        rw [h] at q
        exact q
      · have h' : decide (lo ≤ i) = false := by simpa using h
        rw [h'] at q
        exact q
    | bl b =>
      refine ⟨_, rfl, _, .ty "int", _, _, true, rfl, .ty _, .base (.bl b), kit_ty (by decide +kernel), _, rfl, iteT ?_⟩
      refine ⟨_, rfl, _, .ty "bool", _, _, true, rfl, .ty _, .base (.bl b), kit_ty (by decide +kernel), _, rfl, _, rfl, iteF ?_⟩
      exact q
    | other _ _ ty hn =>
      exact ⟨_, rfl, _, .ty "int", _, _, false, rfl, .ty _, ty, kit_ty hn, _, rfl, iteF q⟩
/-- most_after, a number from 0 to 12 -/
theorem ok_after {f fW : Addr} {fd fdW : FuncData} {k : Nat} (F : Fun K "most_after" "most_after" sAfter f fd) (B : Bi mg) (FW : Fun K "is_whole" "is_whole" sWhole fW fdW) (bW : Binds K fdW ["thing", "low", "high"] []) (gW : mg "is_whole" = some (.ref fW)) : FnOk P w K mg base CX0 (k + 2) f fd ["k"] spAfter := by
  have GW : FnOk P w K mg base CX0 (k + 1) fW fdW ["thing", "low", "high"] (spWhole K) := ok_whole FW B
  refine F.ok scAfter (fun vs H Q E h => ?_) (fun cdv A outer s H vs Q E hr h => ?_)
  · obtain ⟨k, rfl, _⟩ := h
    rfl
  · obtain ⟨k, rfl, hk, q⟩ := h
    refine ⟨_, pss_cons (ps_if (pt_not (pt_val (pe_call GW hr (by rfl) gW FW.kp bW .nil pass0 (pa_cons (pv 0) (pa_cons pe_int (pa_cons pe_int pa_nil)))))) (pss_one ps_never) pss_nil)
      (pss_cons (ps_set (i := 1) scAfter.nd rfl (.inl rfl) pe_int)
      (pss_cons (ps_for PassesOwn.never rfl (pi_range1 rfl B.range (pa_cons (pv 0) pa_nil)) (pg_name (i := 2) scAfter.nd rfl (.inl rfl))
        (pss_one (ps_set (i := 1) scAfter.nd rfl (.inl rfl) (pe_op op_mulW (pv 1) (pe_op op_add (pv 1) pe_int)))))
      (pss_one (ps_ret (pv 1))))), ?_⟩
    refine ⟨_, rfl, _, _, _, _, rfl, .int _ _ _, _, rfl, ?_⟩
    have e : (decide ((0 : Int) ≤ (k : Int)) && decide ((k : Int) ≤ 12)) = true := by simp; omega
    rw [e]
    refine iteF ?_
    refine ⟨_, rfl, k, rfl, by omega, by omega, for_range (lo := 0) (n := ((k : Int)).toNat) (fun i σ H' => ∃ y, σ = [some (.int k), some (.int (aN i)), y] ∧ H' = H) ⟨none, rfl, rfl⟩ ?_ ?_⟩
    · rintro i σ H' hi ⟨y, rfl, rfl⟩
      exact ⟨_, rfl, _, rfl, _, _, rfl, rfl, _, _, rfl, rfl, aN_wide (by omega), _, rfl, rfl⟩
    · rintro σ H' ⟨y, rfl, rfl⟩
      exact ⟨_, rfl, by simpa using q⟩
end
end K65
set_option Elab.async false
set_option linter.all false
set_option maxRecDepth 100000
set_option maxHeartbeats 4000000
namespace K65
open PySem PySem.Spec PyProof.Rows L2
def StOk (st : List V) : Prop := (∃ c, st = [.int c]) ∨ ∃ a b c, st = [.int a, .int b, .int c]
/-- all but l is as it was -/
def But (l : Addr) (H H' : Hp) : Prop := ∀ b o, b ≠ l → H b = some o → H' b = some o
theorem But.refl (l : Addr) (H : Hp) : But l H H := fun _ _ _ h => h
theorem But.trans {l : Addr} {H H1 H2 : Hp} (a : But l H H1) (b : But l H1 H2) : But l H H2 := fun c o n h => b c o n (a c o n h)
theorem But.upd {l : Addr} {H : Hp} {o : HO} : But l H (upd H l o) := fun b u n h => by rw [upd_ne n]; exact h
theorem But.new {l p : Addr} {H : Hp} {o : HO} (h : H p = none) : But l H (L2.upd H p o) := fun b u n e => by rw [upd_ne (ne_of_none e h)]; exact e
def spDigit : Sp := fun vs H Q _ => ∃ l st base, vs = [.ref l, .int base] ∧ H l = some (.lst st) ∧ StOk st ∧ 0 < base ∧ base < 1073741824 ∧
  ∀ (d : Nat) st' H', (d : Int) < base → StOk st' → H' l = some (.lst st') → But l H H' → Q (.int d) H'
theorem mod_nat {x b : Int} (h : 0 < b) : ∃ d : Nat, (d : Int) < b ∧ x % b = (d : Int) := by
  have h1 := Int.emod_nonneg x (show b ≠ 0 by omega)
  have h2 := Int.emod_lt_of_pos x h
  exact ⟨(x % b).toNat, by omega, by omega⟩
section
variable {P : Program} {w : World} {K : PySem.W.Frag} {mg : Str → Option Value} {base : Heap}
set_option maxHeartbeats 8000000 in
theorem ok_digit {f : Addr} {fd : FuncData} {k : Nat} (F : Fun K "_law_digit" "_law_digit" sDigit f fd) (B : Bi mg) : FnOk P w K mg base CX0 (k + 1) f fd ["_law_state", "_law_base"] spDigit := by
  refine F.ok scDigit (fun vs H Q E h => ?_) (fun cdv A outer s H vs Q E hr h => ?_)
  · obtain ⟨l, st, b, rfl, _⟩ := h
    rfl
  · obtain ⟨l, st, b, rfl, hl, hst, hb0, hb1, q⟩ := h
    refine ⟨_, C8.pss_cut (ps_if (pt_cmpR op_eq (pe_callB call_len_seq (by rfl) B.len PySem.boot_len (pa_cons (pv 0) pa_nil)) pe_int (nomark _))
        (pss_cons (ps_expr (pe_bm PySem.F.plainAttrs_list PySem.F.slot_list_extend PySem.F.type_list_extend mt_extend (pv 0) (pa_cons (pe_lst (pa_cons (pe_op op_mod (pe_callTy call_int1 (by rfl) B.int (by decide +kernel) (pa_cons (pe_ix ix_list (pv 0) pe_int (fun _ _ => rfl)) pa_nil)) pe_int) (pa_cons pe_int pa_nil))) pa_nil)))
          (pss_one (ps_asg (pe_op op_mul (pe_ix ix_list (pv 0) pe_int (fun _ _ => rfl)) (pe_callTy call_int1 (by rfl) B.int (by decide +kernel) (pa_cons (pe_cmpR op_ge (pe_ix ix_list (pv 0) pe_int (fun _ _ => rfl)) (pe_op op_pow pe_int pe_int) (nomark _)) pa_nil))) (pg_sub (pv 0) pe_int set_list))))
        pss_nil)
      (pss_cons (ps_if (pt_cmpR op_gt (pe_ix ix_list (pv 0) pe_int (fun _ _ => rfl)) pe_int (nomark _))
        (pss_cons (ps_set (i := 2) scDigit.nd rfl (.inl rfl) (pe_op op_mod (pe_callTy call_int1 (by rfl) B.int (by decide +kernel) (pa_cons (pe_ix ix_list (pv 0) pe_int (fun _ _ => rfl)) pa_nil)) (pv 1)))
          (pss_cons (ps_asg (pe_op op_fdiv (pe_ix ix_list (pv 0) pe_int (fun _ _ => rfl)) (pv 1)) (pg_sub (pv 0) pe_int set_list))
          (pss_one (ps_ret (pv 2))))) pss_nil)
      (pss_cons (ps_asg (pe_op op_add (pe_ix ix_list (pv 0) pe_int (fun _ _ => rfl)) pe_int) (pg_sub (pv 0) pe_int set_list))
      (pss_cons (ps_set (i := 3) scDigit.nd rfl (.inl rfl) (pe_op op_mod (pe_callTy call_int1 (by rfl) B.int (by decide +kernel) (pa_cons (pe_op op_mul (pe_op op_add (pe_op op_add (pe_ix ix_list (pv 0) pe_int (fun _ _ => rfl)) (pe_op op_mul pe_int (pe_ix ix_list (pv 0) pe_int (fun _ _ => rfl)))) pe_int) pe_int) pa_nil)) pe_int))
      (pss_cons (ps_set (i := 3) scDigit.nd rfl (.inl rfl) (pe_op op_mod (pe_callTy call_int1 (by rfl) B.int (by decide +kernel) (pa_cons (pe_op op_mul (pv 3) (pe_op op_add (pe_op op_fdiv (pv 3) pe_int) pe_int)) pa_nil)) pe_int))
      (pss_one (ps_ret (pe_op op_mod (pe_op op_mod (pe_callTy call_int1 (by rfl) B.int (by decide +kernel) (pa_cons (pe_op op_mul (pv 3) (pe_op op_add (pe_op op_fdiv (pv 3) pe_int) pe_int)) pa_nil)) pe_int) (pv 1)))))))), ?_⟩
    refine ⟨fun σ' H' => ∃ a b' c, σ' = [some (.ref l), some (.int b), none, none] ∧ H' l = some (.lst [.int a, .int b', .int c]) ∧ But l H H', ?_, ?_⟩
    · refine ⟨_, rfl, l, st, rfl, .inl (SqL.of hl), rfl, _, rfl, ?_⟩
      rcases hst with ⟨c, rfl⟩ | ⟨a, b', c, rfl⟩
      · refine iteT ?_
        -- extend
        refine ⟨_, rfl, .inl ⟨rfl, _, SqL.of hl⟩, _, rfl, l, _, 0, .int c, rfl, rfl, SqL.of hl, rfl, .inl ⟨c, rfl, ?_⟩⟩
        refine ⟨_, _, rfl, rfl, (by show (0 : Int) < 2147483647; decide), (by show 2 ≤ sizeLine; decide), fun p hp => ?_⟩
        have npl : l ≠ p := ne_of_none hl hp
        refine ⟨l, p, _, _, rfl, rfl, (by rw [upd_ne npl]; exact hl), upd_same, (by show 1 + 2 ≤ sizeLine; decide), ?_⟩
        refine ⟨_, rfl, l, _, 0, .int c, rfl, rfl, SqL.of upd_same, rfl, ?_⟩
        refine ⟨_, rfl, l, _, 0, .int c, rfl, rfl, SqL.of upd_same, rfl, ?_⟩
        refine ⟨10, 18, rfl, rfl, ⟨by decide, by decide, by decide⟩, c, _, rfl, rfl, .inr ⟨_, rfl, ?_⟩⟩
        refine ⟨c, _, rfl, rfl, .inr (by split <;> decide), ?_⟩
        refine ⟨_, rfl, l, _, 0, 0, rfl, rfl, upd_same, rfl, ?_⟩
        refine ⟨_, _, _, rfl, upd_same, fun b u n e => ?_⟩
        rw [upd_ne n, upd_ne n, upd_ne (ne_of_none e hp)]
        exact e
      · refine iteF ?_
        exact ⟨a, b', c, rfl, hl, But.refl l H⟩
    · rintro σ' H1 ⟨a, b', c, rfl, h1, bt⟩
      refine ⟨_, rfl, l, _, 0, .int a, rfl, rfl, SqL.of h1, rfl, a, 0, rfl, rfl, _, rfl, ite2 (fun ha => ?_) (fun ha => ?_)⟩
      · refine ⟨_, rfl, l, _, 0, .int a, rfl, rfl, SqL.of h1, rfl, .inl ⟨a, rfl, ?_⟩⟩
        refine ⟨_, rfl, a, b, rfl, rfl, hb0, ?_⟩
        refine ⟨_, rfl, l, _, 0, .int a, rfl, rfl, SqL.of h1, rfl, ?_⟩
        refine ⟨_, rfl, a, b, rfl, rfl, ⟨hb0, hb1⟩, ?_⟩
        refine ⟨_, rfl, l, _, 0, 0, rfl, rfl, h1, rfl, ?_⟩
        refine ⟨_, rfl, ?_⟩
        obtain ⟨d, hd, ed⟩ := mod_nat (x := a) hb0
        dsimp only
        rw [ed]
        exact q d _ _ hd (.inr ⟨_, _, _, rfl⟩) upd_same (bt.trans But.upd)
      · refine ⟨_, rfl, l, _, 2, .int c, rfl, rfl, SqL.of h1, rfl, c, 1, rfl, rfl, ?_⟩
        refine ⟨_, rfl, l, _, 2, 2, rfl, rfl, h1, rfl, ?_⟩
        refine ⟨_, rfl, l, _, 1, .int b', rfl, rfl, SqL.of upd_same, rfl, ?_⟩
        refine ⟨_, rfl, l, _, 2, .int (c + 1), rfl, rfl, SqL.of upd_same, rfl, ?_⟩
        refine ⟨7919, c + 1, rfl, rfl, .inl ⟨by decide, by decide⟩, b', _, rfl, rfl, _, _, rfl, rfl, _, _, rfl, rfl, .inr ⟨by decide, by decide⟩, .inl ⟨_, rfl, ?_⟩⟩
        refine ⟨_, _, rfl, rfl, (by show (0 : Int) < 2147483647; decide), ?_⟩
        obtain ⟨n1, hn1, en1⟩ := mod_nat (x := (b' + 7919 * (c + 1) + 1) * 48271) (b := 2147483647) (by decide)
        dsimp only
        rw [en1]
        refine ⟨_, rfl, _, rfl, n1, 1009, rfl, rfl, ⟨by decide, by decide⟩, _, _, rfl, rfl, n1, _, rfl, rfl, .inl ⟨by omega, by omega⟩, .inl ⟨_, rfl, ?_⟩⟩
        refine ⟨_, _, rfl, rfl, (by show (0 : Int) < 2147483647; decide), ?_⟩
        obtain ⟨n2, hn2, en2⟩ := mod_nat (x := (n1 : Int) * ((n1 : Int) / 1009 + 69621)) (b := 2147483647) (by decide)
        dsimp only
        rw [en2]
        refine ⟨_, rfl, _, rfl, n2, 2003, rfl, rfl, ⟨by decide, by decide⟩, _, _, rfl, rfl, n2, _, rfl, rfl, .inl ⟨by omega, by omega⟩, .inl ⟨_, rfl, ?_⟩⟩
        refine ⟨_, _, rfl, rfl, (by show (0 : Int) < 2147483399; decide), _, rfl, _, b, rfl, rfl, hb0, ?_⟩
        obtain ⟨d, hd, ed⟩ := mod_nat (x := (n2 : Int) * ((n2 : Int) / 2003 + 40692) % 2147483399) hb0
        dsimp only
        rw [ed]
        exact q d _ _ hd (.inr ⟨_, _, _, rfl⟩) upd_same (bt.trans But.upd)
end
end K65
set_option Elab.async false
set_option linter.all false
set_option maxRecDepth 100000
set_option maxHeartbeats 4000000
namespace K65
open PySem PySem.Spec PyProof.Rows L2
/-! ### more mathematics -/
def row (n : Nat) : List V := (List.range n).map fun i => V.int (aN i)
theorem row_succ (n : Nat) : row (n + 1) = row n ++ [.int (aN n)] := by
  unfold row
  rw [List.range_succ, List.map_append]
  rfl
theorem row_len (n : Nat) : (row n).length = n := by
  unfold row
  rw [List.length_map, List.length_range]
theorem row_get {n i : Nat} (h : i < n) : (row n)[i]? = some (.int (aN i)) := by
  unfold row
  rw [List.getElem?_map, List.getElem?_range h]
  rfl
def fw (n : Int) : Nat := ((List.range 13).filter fun i => decide (aN i < n)).length
theorem fw_eq {n : Int} {j : Nat} (h1 : ∀ i, i < j → aN i < n) (h2 : n ≤ aN j) (h3 : j ≤ 12) : fw n = j := by
  have e : (fun i : Nat => decide (aN i < n)) = fun i => decide (i < j) := by
    funext i
    by_cases hi : i < j
    · rw [decide_eq_true hi, decide_eq_true (h1 i hi)]
    · have h4 := aN_mono (show j ≤ i by omega)
      rw [decide_eq_false hi, decide_eq_false (by omega)]
  unfold fw
  rw [e]
  have all : ∀ j, j < 13 → ((List.range 13).filter fun i => decide (i < j)).length = j := by decide
  exact all j (by omega)
theorem fw_take (n : Int) (i : Nat) : ((row (i + 1)).filter fun v => match v with | .int a => decide (a < n) | _ => false).length = ((row i).filter fun v => match v with | .int a => decide (a < n) | _ => false).length + (if aN i < n then 1 else 0) := by
  rw [row_succ, List.filter_append, List.length_append]
  by_cases h : aN i < n
  · simp [h]
  · simp [h]
def lt13 (n : Int) (i : Nat) : List V := ((List.range i).filter fun j => decide (aN j < n)).map fun j => V.int (aN j)
theorem lt13_succ (n : Int) (i : Nat) : lt13 n (i + 1) = if aN i < n then lt13 n i ++ [.int (aN i)] else lt13 n i := by
  unfold lt13
  rw [List.range_succ, List.filter_append]
  by_cases h : aN i < n
  · simp [h]
  · simp [h]
theorem lt13_len (n : Int) : (lt13 n 13).length = fw n := by
  unfold lt13 fw
  rw [List.length_map]
theorem lt13_le (n : Int) (i : Nat) : (lt13 n i).length ≤ i := by
  unfold lt13
  rw [List.length_map]
  exact Nat.le_trans (List.length_filter_le _ _) (by rw [List.length_range]; exact Nat.le_refl _)
/-! ### promises -/
def spTo : Sp := fun vs H Q _ => ∃ n : Int, vs = [.int n] ∧ 1 ≤ n ∧ n ≤ 10 ^ 60 ∧ Q (.int (fw n)) H
def spPick : Sp := fun vs H Q _ => ∃ l st m xs, vs = [.ref l, .ref m] ∧ H l = some (.lst st) ∧ StOk st ∧ H m = some (.lst xs) ∧ m ≠ l ∧ 0 < xs.length ∧ xs.length ≤ 1000 ∧
  ∀ (j : Nat) v st' H', xs[j]? = some v → StOk st' → H' l = some (.lst st') → But l H H' → Q v H'
def spRow : Sp := fun vs H Q _ => vs = [] ∧ ∀ p H', H p = none → H' p = some (.lst (row 13)) → Same H H' → Q (.ref p) H'
def spTens : Sp := fun vs H Q _ => ∃ m : Nat, vs = [.int m] ∧ m ≤ 100 ∧ Q (.int (tN m)) H
def spFewest (K : PySem.W.Frag) : Sp := fun vs H Q _ => ∃ r n, vs = [.ref r, .int n] ∧ SqL K H r (row 13) ∧ ∀ H', Same H H' → Q (.int (fw n)) H'
theorem scFewest : FnScope ["_law_row_here", "_law_n", "_law_many"] ["_law_row_here", "_law_n"] (defScope sFewest) := ⟨rfl, rfl, rfl, by decide +kernel, rfl, by decide +kernel, by decide +kernel⟩
theorem same_new {H : Hp} {p : Addr} {o : HO} (h : H p = none) : Same H (upd H p o) := fun b x e => by
  rw [upd_ne (ne_of_none e h)]
  exact e
theorem same_mut {H H' : Hp} {p : Addr} {o : HO} (h : H p = none) (s : Same H H') : Same H (upd H' p o) := fun b x e => by
  rw [upd_ne (ne_of_none e h)]
  exact s b x e
theorem aN_9 : (10 : Int) ^ 60 ≤ aN 9 := by decide +kernel
section
variable {P : Program} {w : World} {K : PySem.W.Frag} {mg : Str → Option Value} {base : Heap}
theorem ok_binds {f fW : Addr} {fd fdW : FuncData} {k : Nat} (F : Fun K "most_by_binds" "most_by_binds" sBinds f fd) (B : Bi mg) (FW : Fun K "is_whole" "is_whole" sWhole fW fdW) (bW : Binds K fdW ["thing", "low", "high"] []) (gW : mg "is_whole" = some (.ref fW)) : FnOk P w K mg base CX0 (k + 2) f fd ["k"] spBinds := by
  have GW : FnOk P w K mg base CX0 (k + 1) fW fdW ["thing", "low", "high"] (spWhole K) := ok_whole FW B
  refine F.ok scBinds (fun vs H Q E h => ?_) (fun cdv A outer s H vs Q E hr h => ?_)
  · obtain ⟨k, rfl, _⟩ := h
    rfl
  · obtain ⟨k, rfl, hk, q⟩ := h
    refine ⟨_, pss_cons (ps_if (pt_not (pt_val (pe_call GW hr (by rfl) gW FW.kp bW .nil pass0 (pa_cons (pv 0) (pa_cons pe_int (pa_cons pe_int pa_nil)))))) (pss_one ps_never) pss_nil)
      (pss_cons (ps_set (i := 1) scBinds.nd rfl (.inl rfl) pe_int)
      (pss_cons (ps_for PassesOwn.never rfl (pi_range1 rfl B.range (pa_cons (pv 0) pa_nil)) (pg_name (i := 2) scBinds.nd rfl (.inl rfl))
        (pss_one (ps_set (i := 1) scBinds.nd rfl (.inl rfl) (pe_op op_mul (pv 1) pe_int))))
      (pss_one (ps_ret (pv 1))))), ?_⟩
    refine ⟨_, rfl, _, _, _, _, rfl, .int _ _ _, _, rfl, ?_⟩
    have e : (decide ((0 : Int) ≤ (k : Int)) && decide ((k : Int) ≤ 12)) = true := by simp; omega
    rw [e]
    refine iteF ?_
    refine ⟨_, rfl, k, rfl, by omega, by omega, for_range (lo := 0) (n := ((k : Int)).toNat) (fun i σ H' => ∃ y, σ = [some (.int k), some (.int (bN i)), y] ∧ H' = H) ⟨none, rfl, rfl⟩ ?_ ?_⟩
    · rintro i σ H' hi ⟨y, rfl, rfl⟩
      exact ⟨_, rfl, _, _, rfl, rfl, .inr ⟨by decide, by decide⟩, _, rfl, rfl⟩
    · rintro σ H' ⟨y, rfl, rfl⟩
      exact ⟨_, rfl, by simpa using q⟩
theorem ok_to {f fW : Addr} {fd fdW : FuncData} {k : Nat} (F : Fun K "fewest_to" "fewest_to" sTo f fd) (B : Bi mg) (FW : Fun K "is_whole" "is_whole" sWhole fW fdW) (bW : Binds K fdW ["thing", "low", "high"] []) (gW : mg "is_whole" = some (.ref fW)) : FnOk P w K mg base CX0 (k + 2) f fd ["n"] spTo := by
  have GW : FnOk P w K mg base CX0 (k + 1) fW fdW ["thing", "low", "high"] (spWhole K) := ok_whole FW B
  refine F.ok scTo (fun vs H Q E h => ?_) (fun cdv A outer s H vs Q E hr h => ?_)
  · obtain ⟨k, rfl, _⟩ := h
    rfl
  · obtain ⟨n, rfl, h0, h1, q⟩ := h
    refine ⟨_, pss_cons (ps_if (pt_not (pt_val (pe_call GW hr (by rfl) gW FW.kp bW .nil pass0 (pa_cons (pv 0) (pa_cons pe_int (pa_cons (pe_op op_pow pe_int pe_int) pa_nil)))))) (pss_one ps_never) pss_nil)
      (pss_cons (ps_set (i := 1) scTo.nd rfl (.inl rfl) pe_int)
      (pss_cons (ps_set (i := 2) scTo.nd rfl (.inl rfl) pe_int)
      (pss_cons (ps_while PassesOwn.never (pt_cmpR op_lt (pv 2) (pv 0) (nomark _))
        (pss_cons (ps_set (i := 2) scTo.nd rfl (.inl rfl) (pe_op op_mulW (pv 2) (pe_op op_add (pv 2) pe_int)))
          (pss_one (ps_aug (i := 1) scTo.nd rfl (.inl rfl) pe_int ip_add))))
      (pss_one (ps_ret (pv 1)))))), ?_⟩
    refine ⟨_, rfl, 10, 60, rfl, rfl, ⟨by decide, by decide, by decide⟩, _, _, _, _, rfl, .int _ _ _, _, rfl, ?_⟩
    have e : (decide ((1 : Int) ≤ n) && decide (n ≤ 10 ^ (60 : Int).toNat)) = true := by
      rw [decide_eq_true h0, decide_eq_true (show n ≤ 10 ^ (60 : Int).toNat from h1)]
      rfl
    rw [e]
    refine iteF ?_
    have h9 := aN_9
    refine ⟨fun m σ H' => ∃ j : Nat, m = 12 - j ∧ j ≤ 9 ∧ σ = [some (.int n), some (.int j), some (.int (aN j))] ∧ H' = H ∧ ∀ i, i < j → aN i < n, ⟨12, 0, rfl, by omega, rfl, rfl, fun i hi => absurd hi (by omega)⟩, ?_⟩
    rintro m σ H' ⟨j, rfl, hj, rfl, rfl, hlt⟩
    refine ⟨_, rfl, _, rfl, _, _, rfl, rfl, _, rfl, ite2 (fun c => ?_) (fun c => ?_)⟩
    · have c' : aN j < n := of_decide_eq_true c
      have hj9 : j < 9 := by
        by_cases e9 : j = 9
        · subst e9
          omega
        · omega
      refine ⟨fun σ' H2 => σ' = [some (.int n), some (.int ((j + 1 : Nat) : Int)), some (.int (aN (j + 1)))] ∧ H2 = H', ?_, ?_⟩
      · rintro σ' H2 ⟨rfl, rfl⟩
        refine ⟨12 - (j + 1), by omega, j + 1, rfl, by omega, rfl, rfl, fun i hi => ?_⟩
        by_cases e : i = j
        · subst e
          exact c'
        · exact hlt i (by omega)
      · exact ⟨_, rfl, _, rfl, _, _, rfl, rfl, _, _, rfl, rfl, aN_wide (by omega), _, rfl, _, _, rfl, rfl, rfl, rfl⟩
    · have c' : ¬ aN j < n := fun z => c (decide_eq_true z)
      have ef := fw_eq hlt (by omega) (by omega)
      rw [ef] at q
      exact ⟨_, rfl, q⟩
theorem ok_pick {f fD : Addr} {fd fdD : FuncData} {k : Nat} (F : Fun K "_law_pick" "_law_pick" sPick f fd) (B : Bi mg) (FD : Fun K "_law_digit" "_law_digit" sDigit fD fdD) (bD : Binds K fdD ["_law_state", "_law_base"] []) (gD : mg "_law_digit" = some (.ref fD)) : FnOk P w K mg base CX0 (k + 2) f fd ["_law_state", "_law_some"] spPick := by
  have GD : FnOk P w K mg base CX0 (k + 1) fD fdD ["_law_state", "_law_base"] spDigit := ok_digit FD B
  refine F.ok scPick (fun vs H Q E h => ?_) (fun cdv A outer s H vs Q E hr h => ?_)
  · obtain ⟨l, st, m, xs, rfl, _⟩ := h
    rfl
  · obtain ⟨l, st, m, xs, rfl, hl, hst, hm, nml, hx0, hx1, q⟩ := h
    refine ⟨_, pss_one (ps_ret (pe_ix ix_list (pv 1) (pe_call GD hr (by rfl) gD FD.kp bD .nil pass0 (pa_cons (pv 0) (pa_cons (pe_callB call_len_seq (by rfl) B.len PySem.boot_len (pa_cons (pv 1) pa_nil)) pa_nil))) (fun _ _ => rfl))), ?_⟩
    refine ⟨_, rfl, _, rfl, _, rfl, m, xs, rfl, .inl (SqL.of hm), l, st, _, rfl, hl, hst, by omega, by omega, fun d st' H' hd hst' hl' bt => ?_⟩
    have hd' : d < xs.length := by omega
    refine ⟨m, xs, d, xs[d], rfl, rfl, SqL.of (bt m _ nml hm), atI_nat (List.getElem?_eq_getElem hd'), ?_⟩
    exact q d _ st' H' (List.getElem?_eq_getElem hd') hst' hl' bt
theorem ok_row {f : Addr} {fd : FuncData} {k : Nat} (F : Fun K "_law_row" "_law_row" sRow f fd) (B : Bi mg) : FnOk P w K mg base CX0 (k + 1) f fd [] spRow := by
  refine F.ok scRow (fun vs H Q E h => ?_) (fun cdv A outer s H vs Q E hr h => ?_)
  · obtain ⟨rfl, _⟩ := h
    rfl
  · obtain ⟨rfl, q⟩ := h
    refine ⟨_, pss_cons (ps_set (i := 0) scRow.nd rfl (.inl rfl) (pe_lst (pa_cons pe_int pa_nil)))
      (pss_cons (ps_for PassesOwn.never rfl (pi_range1 rfl B.range (pa_cons pe_int pa_nil)) (pg_name (i := 1) scRow.nd rfl (.inl rfl))
        (pss_one (ps_expr (pe_bm PySem.F.plainAttrs_list PySem.F.slot_list_append PySem.F.type_list_append mt_append (pv 0) (pa_cons (pe_op op_add (pe_op op_mulW (pe_ix ix_list (pv 0) (pe_un un_neg pe_int) (fun _ _ => rfl)) (pe_ix ix_list (pv 0) (pe_un un_neg pe_int) (fun _ _ => rfl))) (pe_ix ix_list (pv 0) (pe_un un_neg pe_int) (fun _ _ => rfl))) pa_nil)))))
      (pss_one (ps_ret (pv 0)))), ?_⟩
    refine ⟨(by show 1 ≤ sizeLine; decide), fun p hp => ?_⟩
    refine ⟨12, rfl, by decide, by decide, for_range (lo := 0) (n := 12) (fun i σ H' => ∃ y, σ = [some (.ref p), y] ∧ H' p = some (.lst (row (i + 1))) ∧ Same H H') ⟨none, rfl, upd_same, same_new hp⟩ ?_ ?_⟩
    · rintro i σ H' hi ⟨y, rfl, h1, sm⟩
      have at1 : atI (row (i + 1)) (-1) = some (.int (aN i)) := by
        rw [row_succ]
        exact atI_last _ _
      refine ⟨_, rfl, .inl ⟨rfl, _, SqL.of h1⟩, _, rfl, 1, rfl, p, _, -1, _, rfl, rfl, SqL.of h1, at1, ?_⟩
      refine ⟨_, rfl, 1, rfl, p, _, -1, _, rfl, rfl, SqL.of h1, at1, ?_⟩
      refine ⟨_, _, rfl, rfl, wide_mul (aN_small (by omega)) (aN_small (by omega)) (by decide) (by decide) (by decide), ?_⟩
      refine ⟨_, rfl, 1, rfl, p, _, -1, _, rfl, rfl, SqL.of h1, at1, ?_⟩
      refine ⟨_, _, rfl, rfl, p, _, _, rfl, rfl, h1, (by rw [row_len]; exact small1000 (by omega)), ?_⟩
      refine ⟨_, rfl, ?_, same_mut hp sm⟩
      rw [upd_same, row_succ (i + 1)]
      have e : aN i * aN i + aN i = aN (i + 1) := by
        show _ = aN i * (aN i + 1)
        rw [Int.mul_add, Int.mul_one]
      dsimp only
      rw [e]
    · rintro σ H' ⟨y, rfl, h1, sm⟩
      exact ⟨_, rfl, q p H' hp h1 sm⟩
theorem ok_tens {f : Addr} {fd : FuncData} {k : Nat} (F : Fun K "_law_tens" "_law_tens" sTens f fd) (B : Bi mg) : FnOk P w K mg base CX0 (k + 1) f fd ["_law_many"] spTens := by
  refine F.ok scTens (fun vs H Q E h => ?_) (fun cdv A outer s H vs Q E hr h => ?_)
  · obtain ⟨k, rfl, _⟩ := h
    rfl
  · obtain ⟨k, rfl, hk, q⟩ := h
    refine ⟨_, pss_cons (ps_set (i := 1) scTens.nd rfl (.inl rfl) pe_int)
      (pss_cons (ps_for PassesOwn.never rfl (pi_range1 rfl B.range (pa_cons (pv 0) pa_nil)) (pg_name (i := 2) scTens.nd rfl (.inl rfl))
        (pss_one (ps_set (i := 1) scTens.nd rfl (.inl rfl) (pe_op op_mul (pv 1) pe_int))))
      (pss_one (ps_ret (pv 1)))), ?_⟩
    refine ⟨_, rfl, k, rfl, by omega, by omega, for_range (lo := 0) (n := ((k : Int)).toNat) (fun i σ H' => ∃ y, σ = [some (.int k), some (.int (tN i)), y] ∧ H' = H) ⟨none, rfl, rfl⟩ ?_ ?_⟩
    · rintro i σ H' hi ⟨y, rfl, rfl⟩
      exact ⟨_, rfl, _, _, rfl, rfl, .inr ⟨by decide, by decide⟩, _, rfl, rfl⟩
    · rintro σ H' ⟨y, rfl, rfl⟩
      exact ⟨_, rfl, by simpa using q⟩
theorem ok_doubled {f : Addr} {fd : FuncData} {k : Nat} (F : Fun K "_law_doubled" "_law_doubled" sDoubled f fd) (B : Bi mg) : FnOk P w K mg base CX0 (k + 1) f fd ["_law_k"] spBinds := by
  refine F.ok scDoubled (fun vs H Q E h => ?_) (fun cdv A outer s H vs Q E hr h => ?_)
  · obtain ⟨k, rfl, _⟩ := h
    rfl
  · obtain ⟨k, rfl, hk, q⟩ := h
    refine ⟨_, pss_cons (ps_set (i := 1) scDoubled.nd rfl (.inl rfl) pe_int)
      (pss_cons (ps_for PassesOwn.never rfl (pi_range1 rfl B.range (pa_cons (pv 0) pa_nil)) (pg_name (i := 2) scDoubled.nd rfl (.inl rfl))
        (pss_one (ps_set (i := 1) scDoubled.nd rfl (.inl rfl) (pe_op op_add (pv 1) (pv 1)))))
      (pss_one (ps_ret (pv 1)))), ?_⟩
    refine ⟨_, rfl, k, rfl, by omega, by omega, for_range (lo := 0) (n := ((k : Int)).toNat) (fun i σ H' => ∃ y, σ = [some (.int k), some (.int (bN i)), y] ∧ H' = H) ⟨none, rfl, rfl⟩ ?_ ?_⟩
    · rintro i σ H' hi ⟨y, rfl, rfl⟩
      refine ⟨_, rfl, _, rfl, _, _, rfl, rfl, some (.int (0 + (i : Int))), ?_, rfl⟩
      have e : bN i + bN i = bN (i + 1) := by
        show _ = bN i * 2
        omega
      dsimp only
      rw [e]
      rfl
    · rintro σ H' ⟨y, rfl, rfl⟩
      exact ⟨_, rfl, by simpa using q⟩
theorem ok_fewest {f : Addr} {fd : FuncData} {k : Nat} (F : Fun K "_law_fewest" "_law_fewest" sFewest f fd) (B : Bi mg) : FnOk P w K mg base CX0 (k + 1) f fd ["_law_row_here", "_law_n"] (spFewest K) := by
  refine F.ok scFewest (fun vs H Q E h => ?_) (fun cdv A outer s H vs Q E hr h => ?_)
  · obtain ⟨r, n, rfl, _⟩ := h
    rfl
  · obtain ⟨r, n, rfl, hr0, q⟩ := h
    refine ⟨_, pss_one (ps_ret (pe_callB call_len_seq (by rfl) B.len PySem.boot_len (pa_cons
      (pe_lc (own := [("_law_many", 2)]) (g := gName 2) (by rfl) scFewest.nd (pi_list (pv 0)) (blkOk_by (own := [("_law_many", 2)]) (N := ["_law_row_here", "_law_n", "_law_many"]) (sc := defScope sFewest) (by decide +kernel)) (fun _ _ _ _ _ => pg_name (i := 2) scFewest.nd rfl (Or.inl rfl)) (fun _ _ _ _ _ => pts_one (pt_cmpR op_lt (pv 2) (pv 1) (nomark _))) (fun _ _ _ _ _ => pv 2)) pa_nil))), ?_⟩
    refine ⟨_, rfl, r, rfl, ⟨_, hr0⟩, fun D hD => lc_list (K := K) (a := r) (xs := row 13) (fun i H' => H' D = some (.lst (lt13 n i)) ∧ Same H H') ⟨upd_same, same_new hD⟩ (fun i H' _ h => h.2.seq hr0) ?_ ?_⟩
    · rintro i x H' hx ⟨h1, sm⟩
      have hi : i < 13 := by
        have := (List.getElem?_eq_some_iff.mp hx).1
        rw [row_len] at this
        exact this
      rw [row_get hi] at hx
      cases hx
      refine ⟨rfl, _, rfl, _, rfl, _, _, rfl, rfl, _, rfl, ite2 (fun c => ?_) (fun c => ?_)⟩
      · have c' : aN i < n := of_decide_eq_true c
        refine ⟨_, rfl, _, h1, small1000 (Nat.le_trans (lt13_le n i) (by omega)), ?_, same_mut hD sm⟩
        rw [upd_same, lt13_succ, if_pos c']
      · have c' : ¬ aN i < n := fun z => c (decide_eq_true z)
        refine ⟨?_, sm⟩
        rw [lt13_succ, if_neg c']
        exact h1
    · rintro H' ⟨h1, sm⟩
      rw [row_len] at h1
      refine ⟨D, _, rfl, .inl (SqL.of h1), ?_⟩
      rw [lt13_len]
      exact q H' sm
end
end K65
set_option Elab.async false
set_option linter.all false
set_option maxRecDepth 100000
set_option maxHeartbeats 4000000
/-! A lambda with defaults, handed to a def that calls it. -/
namespace LamD
open PySem PySem.Spec PyProof.Rows L2 LamX
abbrev fnD (q : Str) (params : Arguments) (body : Expr) (scope : Scope) (cl : List (Str × Addr)) (pm : Value) (c' : Addr) (ctv dv : Value) : FuncData :=
  { PySem.W.kla_fn "<lambda>" q params body scope cl pm (.ref c') ctv with defaults := dv }
abbrev obD (q : Str) (params : Arguments) (body : Expr) (scope : Scope) (cl : List (Str × Addr)) (pm : Value) (c' : Addr) (ctv dv : Value) : Obj :=
  { cls := .type "function", data := .func (fnD q params body scope cl pm c' ctv dv) }
abbrev tabOf (ps : Array Value) : Obj := { cls := .none, data := .fields ps }
section
variable {M : Model} {A : Around} {E : Value → Shared → Prop} {s : Shared} {qual : Str} {params : Arguments} {body : Expr} {scope : Scope} {env : Env} {c P : Addr} {ps : Array Value} {pos : Pos} {fl : Nat} {mg : Str → Option Value} {cl : List (Str × Addr)} {Q : Value → Shared → Prop} {dv : Value}
/-- what stands ahead of the making -/
structure Pre (s : Shared) (env : Env) (scope : Scope) (cl : List (Str × Addr)) (mg : Str → Option Value) (c P : Addr) (ps : Array Value) : Prop where
  clo : closureFor scope env = pure cl
  glo : env.globals = mainGlobals
  ns : s.heap.Ns mainGlobals mg
  code : env.code = .ref c
  hd : PySem.W.CodeHd s.heap c P
  tab : s.heap.get? P = some (tabOf ps)
  tri : TriplesOk ps.toList
  bi : s.heap.BuiltinsAt mg P
  gP : mainGlobals ≠ P
theorem Pre.push (p : Pre s env scope cl mg c P ps) (o : Obj) : Pre { s with heap := s.heap.push o } env scope cl mg c P ps := by
  obtain ⟨a, b, n, d, e, f, g, ⟨bm, ob, b1, b2, b3, b4, b5, b6, b7, b8⟩, i⟩ := p
  exact ⟨a, b, n.push _, d, e.keeps fun _ _ z => Heap.get?_push_of_some _ z, Heap.get?_push_of_some _ f, g, ⟨bm, ob, b1, b2, b3, b4, Heap.get?_push_of_some _ b5, b6, b7, b8⟩, i⟩
/-- behind the closure's tuple -/
theorem fin_new {ct : Value} (p : Pre s env scope cl mg c P ps) (hnf : codeAmong pos ps.toList = none)
    (h : ∀ c' h' tk, Heap.ExtBut P s.heap h' → s.heap.objs.size ≤ c' → c' < h'.objs.size → h'.CodeRec (.ref c') qual → h'.get? P = some (tabOf (ps ++ #[rawInt pos.line, rawInt pos.col, .ref c'])) →
      Q (.ref h'.objs.size) { s with heap := h'.push (obD qual params body scope cl ((mg "__name__").getD .none) c' ct dv), toks := tk }) :
    wpAny M A (do
      let cd ← functionCode env pos fl "<lambda>" qual params scope (.expr body)
      let bl ← builtinsFor env.globals env.builtins
      let nm ← nsGet env.globals "__name__"
      newObj (.type "function") (.func { name := "<lambda>", qualname := qual, params, body := .expr body, scope, globals := env.globals, closure := cl, closureTuple := ct, code := cd, builtins := bl, defaults := dv, kwdefaults := .none, annotations := none, pyModule := nm.getD .none, doc := .none })) Q E s := by
  obtain ⟨_, hglo, hns, hcode, hC, htab, htri, ⟨bm, ob, b1, b2, b3, b4, b5, b6, b7, b8⟩, hgP⟩ := p
  refine wpAny_bind (wpAny_functionCodeX hcode (hC.code htab htri) (hC.tab htab) hnf fun c' h' tk hx hge hlt _ hrec htb _ => ?_)
  have hns' := hns.extBut hx hgP
  rw [hglo]
  refine wpAny_bind (wpAny_builtinsFor hns' b1 b2 (hx _ _ b4 b5) b6 b7 b8 ?_)
  refine wpAny_bind (wpAny_nsGet hns' ?_)
  exact wpAny_newObj_type (h c' h' tk hx hge hlt hrec htb.2) (by size_fits)
theorem fin_hit {ct : Value} {c' : Addr} (p : Pre s env scope cl mg c P ps) (hf : codeAmong pos ps.toList = some (.ref c'))
    (h : Q (.ref s.heap.objs.size) { s with heap := s.heap.push (obD qual params body scope cl ((mg "__name__").getD .none) c' ct dv) }) :
    wpAny M A (do
      let cd ← functionCode env pos fl "<lambda>" qual params scope (.expr body)
      let bl ← builtinsFor env.globals env.builtins
      let nm ← nsGet env.globals "__name__"
      newObj (.type "function") (.func { name := "<lambda>", qualname := qual, params, body := .expr body, scope, globals := env.globals, closure := cl, closureTuple := ct, code := cd, builtins := bl, defaults := dv, kwdefaults := .none, annotations := none, pyModule := nm.getD .none, doc := .none })) Q E s := by
  obtain ⟨_, hglo, hns, hcode, hC, htab, htri, ⟨bm, ob, b1, b2, b3, b4, b5, b6, b7, b8⟩, hgP⟩ := p
  refine wpAny_bind (wpAny_functionCode_hit hcode (hC.code htab htri) hf ?_)
  rw [hglo]
  refine wpAny_bind (wpAny_builtinsFor hns b1 b2 b5 b6 b7 b8 ?_)
  refine wpAny_bind (wpAny_nsGet hns ?_)
  exact wpAny_newObj_type h (by size_fits)
theorem tail_new (p : Pre s env scope cl mg c P ps) (hnf : codeAmong pos ps.toList = none)
    (h : ∀ c' ct h' tk, Heap.ExtBut P s.heap h' → s.heap.objs.size ≤ c' → c' < h'.objs.size → h'.CodeRec (.ref c') qual → h'.get? P = some (tabOf (ps ++ #[rawInt pos.line, rawInt pos.col, .ref c'])) →
      Q (.ref h'.objs.size) { s with heap := h'.push (obD qual params body scope cl ((mg "__name__").getD .none) c' ct dv), toks := tk }) :
    wpAny M A (makeTail "<lambda>" qual params (.expr body) scope env dv .none none pos fl) Q E s := by
  unfold makeTail
  rw [p.clo]
  refine wpAny_bind (wpAny_pure ?_)
  cases hcl : cl with
  | nil =>
    subst hcl
    simp only [List.isEmpty_nil, if_true]
    refine wpAny_bind (wpAny_pure ?_)
    exact fin_new p hnf fun c' h' tk => h c' .none h' tk
  | cons a r =>
    rw [← hcl]
    have e : cl.isEmpty = false := by rw [hcl]; rfl
    simp only [e, Bool.false_eq_true, if_false]
    refine wpAny_bind (wpAny_newTextTuple ?_)
    refine fin_new (p.push _) hnf fun c' h' tk hx hge hlt hrec htb => ?_
    exact h c' _ h' tk (fun b o hb z => hx b o hb (Heap.get?_push_of_some _ z)) (Nat.le_trans (by rw [Heap.size_push]; omega) hge) hlt hrec htb
theorem tail_hit {c' : Addr} (p : Pre s env scope cl mg c P ps) (hf : codeAmong pos ps.toList = some (.ref c'))
    (h : ∀ ct (h' : Heap), (∀ b o, s.heap.get? b = some o → h'.get? b = some o) → s.heap.objs.size ≤ h'.objs.size →
      Q (.ref h'.objs.size) { s with heap := h'.push (obD qual params body scope cl ((mg "__name__").getD .none) c' ct dv) }) :
    wpAny M A (makeTail "<lambda>" qual params (.expr body) scope env dv .none none pos fl) Q E s := by
  unfold makeTail
  rw [p.clo]
  refine wpAny_bind (wpAny_pure ?_)
  cases hcl : cl with
  | nil =>
    subst hcl
    simp only [List.isEmpty_nil, if_true]
    refine wpAny_bind (wpAny_pure ?_)
    exact fin_hit p hf (h .none s.heap (fun _ _ z => z) (Nat.le_refl _))
  | cons a r =>
    rw [← hcl]
    have e : cl.isEmpty = false := by rw [hcl]; rfl
    simp only [e, Bool.false_eq_true, if_false]
    refine wpAny_bind (wpAny_newTextTuple ?_)
    exact fin_hit (p.push _) hf (h _ _ (fun b o z => Heap.get?_push_of_some _ z) (by rw [Heap.size_push]; omega))
end
end LamD
set_option Elab.async false
set_option linter.all false
set_option maxRecDepth 100000
set_option maxHeartbeats 4000000
namespace LamD
open PySem PySem.Spec PyProof.Rows L2 LamX
section
variable {X : Cx} {pins : List (Addr × Obj)} {σ : L2.St} {H HZ : Hp} {s s1 : Shared}
abbrev lq (X : Cx) : Str := X.env.qual ++ "<lambda>"
/-- the function object's making, the table told -/
theorem made {T : List (Addr × Str)} {c P : Addr} {params : Arguments} {body : Expr} {scope : Scope} {pos : Pos} {fl : Nat} {E : Value → Shared → Prop} {Q : Value → Shared → Prop} {dv : Value} (I : Inv X pins σ H s) (TB : TabB X.base X.mg c P) (hcode : X.env.code = .ref c)
    (hm : (P, lq X) ∈ T) (hu : ∀ p ∈ T, p.1 = P → p.2 = lq X) (hT : Tabs T H) (hfree : ∀ y ∈ scope.names, y.2 = .free → ∃ c, X.env.cells.lookup y.1 = some c)
    (h : ∀ (f c' : Addr) (pm ct : Value) (H1 : Hp) (s' : Shared), Inv X pins σ H1 s' → ExtN H H1 → Tabs T H1 → (∀ b o, b ≠ P → s.heap.get? b = some o → s'.heap.get? b = some o) → (∀ b o, s.heap.get? b = some o → H b = none → H1 b = none) →
      s'.heap.get? f = some (obD (lq X) params body scope (cloFrom X.env.cells scope.names []) pm c' ct dv) → H1 f = none → f ∉ frs X.stack → H1 c' = some (CodeO c' (lq X)) → Q (.ref f) s') :
    wpAny (model X.prog X.w) X.A (makeTail "<lambda>" (lq X) params (.expr body) scope X.env dv .none none pos fl) Q E s := by
  obtain ⟨ps, hP, ht, ha⟩ := hT _ hm
  have pre : Pre s X.env scope (cloFrom X.env.cells scope.names []) X.mg c P ps :=
    ⟨closure_ok hfree, I.ok.glob, I.mod.glob.keeps I.bk, hcode, TB.code.keeps I.bk, I.hok P _ hP, ht, TB.bm.keeps I.bk, TB.gP⟩
  have nofr : ∀ f, s.heap.objs.size ≤ f → f ∉ frs X.stack := fun f hf z => by
    rcases List.mem_cons.mp (I.stkSub _ z) with e | e
    · have h1 := I.lt
      rw [← e] at h1
      exact absurd (Nat.lt_of_lt_of_le h1 hf) (Nat.lt_irrefl f)
    · exact I.nofs hf e
  cases hc : codeAmong pos ps.toList with
  | none =>
    refine tail_new pre hc fun c' ct h' tk hx hge hlt hrec htb => ?_
    obtain ⟨c2, oc, vs, t, e2, hoc, hd, hv⟩ := hrec
    cases e2
    have hsz : s.heap.objs.size ≤ h'.objs.size := Nat.le_trans hge (Nat.le_of_lt hlt)
    have nC : H c' = none := I.hok.fresh hge
    have nCP : c' ≠ P := fun z => by
      rw [z, hP] at nC
      cases nC
    have I1 := inv_table (t' := tk) (more := #[rawInt pos.line, rawInt pos.col, .ref c']) (h' := h'.push (obD (lq X) params body scope (cloFrom X.env.cells scope.names []) ((X.mg "__name__").getD .none) c' ct dv)) (q := lq X) I hP
      (fun b o hb e => Heap.get?_push_of_some _ (hx b o hb e)) (Heap.get?_push_of_some _ htb) hge ⟨oc, vs, t, Heap.get?_push_of_some _ hoc, hd, hv⟩
    have hE : ExtN H (upd (upd H P (.tbl (ps ++ #[rawInt pos.line, rawInt pos.col, .ref c']))) c' (CodeO c' (lq X))) := fun b o e n => by
      have nb : b ≠ P := fun z => n ps (by rw [z, hP] at e; exact (Option.some.inj e).symm)
      rw [upd_ne (ne_of_none e nC), upd_ne nb]
      exact e
    have eL : (ps ++ #[rawInt pos.line, rawInt pos.col, .ref c']).toList = ps.toList ++ [rawInt pos.line, rawInt pos.col, .ref c'] := by simp
    refine h h'.objs.size c' ((X.mg "__name__").getD .none) ct _ _ I1 hE (fun p hp => ?_) (fun b o hb e => Heap.get?_push_of_some _ (hx b o hb e)) (fun b o e n => ?_) (Heap.get?_push_size _ rfl) ?_ (nofr _ hsz) upd_same
    · by_cases hb : p.1 = P
      · have ep := hu p hp hb
        unfold TabS
        rw [ep, hb]
        refine ⟨_, by rw [upd_ne nCP.symm, upd_same], by rw [eL]; exact PySem.TriplesOk_snoc _ _ _ _ ht, fun p' cv hcv => ?_⟩
        rw [eL] at hcv
        rcases among_app _ ht hcv with z | z
        · obtain ⟨c0, e1, e2⟩ := ha p' cv z
          exact ⟨c0, e1, hE _ _ e2 codeO_ne⟩
        · exact ⟨c', z, upd_same⟩
      · obtain ⟨qs, a1, a2, a3⟩ := hT p hp
        refine ⟨qs, by rw [upd_ne (ne_of_none a1 nC), upd_ne hb]; exact a1, a2, fun p' cv hcv => ?_⟩
        obtain ⟨c0, e1, e2⟩ := a3 p' cv hcv
        exact ⟨c0, e1, hE _ _ e2 codeO_ne⟩
    · have n1 : b ≠ c' := fun z => by
        have q := Nat.lt_of_lt_of_le (Heap.lt_size e) hge
        rw [z] at q
        exact Nat.lt_irrefl _ q
      have n2 : b ≠ P := fun z => by
        rw [z, hP] at n
        cases n
      rw [upd_ne n1, upd_ne n2]
      exact n
    · have n1 : h'.objs.size ≠ c' := Nat.ne_of_gt hlt
      have n2 : h'.objs.size ≠ P := fun z => by
        have q := Nat.lt_of_lt_of_le (Heap.lt_size (show s.heap.get? P = some (tabOf ps) from I.hok P _ hP)) hsz
        rw [z] at q
        exact absurd q (Nat.lt_irrefl P)
      rw [upd_ne n1, upd_ne n2]
      exact I.hok.fresh hsz
  | some cv =>
    obtain ⟨c', e, hco⟩ := ha pos cv hc
    subst e
    refine tail_hit pre hc fun ct h' hx hsz => ?_
    have I1 : Inv X pins σ H { s with heap := h'.push (obD (lq X) params body scope (cloFrom X.env.cells scope.names []) ((X.mg "__name__").getD .none) c' ct dv) } := I.kept fun b o e => Heap.get?_push_of_some _ (hx b o e)
    exact h h'.objs.size c' _ ct H _ I1 (ExtN.refl H) hT (fun b o _ e => Heap.get?_push_of_some _ (hx b o e)) (fun _ _ _ n => n) (Heap.get?_push_size _ rfl) (I.hok.fresh hsz) (nofr _ hsz) hco
/-- the lambda's names: captured ones, globals, own ones that have no slot -/
structure Nm (N : List Str) (sc scope : Scope) : Prop where
  kind : scope.kind = .function
  co : scope.isCoroutine = false
  gen : scope.isGenerator = false
  own : ∀ y ∈ scope.names, y.2 ≠ .cell ∧ (y.2 = .local → y.1 ∉ N)
  free : ∀ y ∈ scope.names, y.2 = .free → sc.names.lookup y.1 = some .cell ∨ sc.names.lookup y.1 = some .free
theorem Nm.has {scope : Scope} (L : Nm X.N X.env.scope scope) (ok : X.Ok) : ∀ y ∈ scope.names, y.2 = .free → ∃ c, X.env.cells.lookup y.1 = some c :=
  fun y hy e => (L.free y hy e).elim (fun k => ok.has _ (.inl k)) fun k => ok.has _ (.inr k)
theorem start_ok {A : Around} {outer : List Env} {E : XK} {scope : Scope} {f c' : Addr} {h₁ : Heap} {tk : Nat} {m : Str → Option Value} (I : Inv X pins σ H s) (L : Nm X.N X.env.scope scope) (e0 : Env0 X.prog X.w X.K X.mg X.base A outer s1 HZ) (hd : A.handled = none)
    (un : Un (frs X.stack) [] H HZ s.heap s1.heap) (hns : h₁.Ns s1.heap.objs.size m) (kp : ∀ b o, s1.heap.get? b = some o → h₁.get? b = some o) :
    Inv (lamCx X A outer s1 HZ E scope f c') [] σ HZ { s1 with heap := h₁, toks := tk } := by
  have hfree := L.has I.ok
  have back : ∀ {y c}, (cloFrom X.env.cells scope.names []).lookup y = some c → X.env.cells.lookup y = some c := fun {y c} e => by
    rcases cloFrom_mem (PySem.mem_of_lookup e) with hm | ⟨h1, h2⟩
    · cases hm
    · obtain ⟨c1, hc⟩ := hfree _ h1 rfl
      have hc : X.env.cells.lookup y = some c1 := hc
      have e2 : c = c1 := by
        rw [h2, hc] <;> rfl
      rw [e2]
      exact hc
  have there : ∀ {y}, scope.names.lookup y = some .free → ∃ c, (cloFrom X.env.cells scope.names []).lookup y = some c := fun {y} hl =>
    mem_lookup (cloFrom_has (cells := X.env.cells) (acc := []) (show (y, NameKind.free) ∈ scope.names from PySem.mem_of_lookup hl))
  have cellK : ∀ {c : Addr} {v : Option Value}, H c = none → s.heap.IsCell c v → h₁.IsCell c v := fun {c v} n ⟨o, ho, hd⟩ => by
    obtain ⟨sl, q⟩ := un.any ho n (by simp)
    exact ⟨_, kp _ _ q, hd⟩
  have noA : ∀ b : Addr, b ∉ (lamCx X A outer s1 HZ E scope f c').ex := fun b z => absurd (show b ∈ ([] : List Addr) from z) (by simp)
  have ok : (lamCx X A outer s1 HZ E scope f c').Ok :=
    { mod := e0.mod, kind := L.kind, glob := rfl, blt := rfl, above := Nat.le_refl _,
      inj := fun y z c e1 e2 => I.ok.inj y z c (back e1) (back e2),
      has := fun y hy => by
        have hy : scope.names.lookup y = some .cell ∨ scope.names.lookup y = some .free := hy
        rcases hy with hy | hy
        · exact absurd rfl (L.own _ (PySem.mem_of_lookup hy)).1
        · exact there hy
      cab := fun y c z _ => by cases (show false = true from z)
      hd := fun _ => hd, frames := Around.frames_deeper e0.frames, stk := .inr ⟨rfl, rfl⟩, exf := fun b z => absurd z (noA b),
      bs := e0.bs, bsz := e0.bsz, noex := fun b _ _ => noA b, exfs := fun b z => absurd z (noA b), funs := e0.funs, frf := e0.frf }
  refine ⟨ok, rfl, e0.bare, Un.kept kp, ⟨m, hns, fun i y v e1 e2 e3 => ?_⟩, fun y c e => ?_, e0.hok.fresh (Nat.le_refl _), fun y c e => ?_, fun q hq => absurd (show q ∈ ([] : List (Addr × Obj)) ++ [] from hq) (by simp), e0.hok.kept kp, I.len⟩
  · have e1 : X.N[i]? = some y := e1
    have e3 : Vis scope y := e3
    rcases e3 with k | k | k
    · exact absurd (List.mem_of_getElem? e1) ((L.own _ (PySem.mem_of_lookup k)).2 rfl)
    · exact absurd rfl (L.own _ (PySem.mem_of_lookup k)).1
    · obtain ⟨m0, hn, hl⟩ := I.loc
      have hvis : Vis X.env.scope y := (L.free _ (PySem.mem_of_lookup k) rfl).elim (fun k => .inr (.inl k)) (fun k => .inr (.inr k))
      obtain ⟨w', r, q⟩ := hl i y v e1 e2 hvis
      obtain ⟨c2, h2⟩ := there k
      refine ⟨w', r, .inr ⟨.inr k, c2, h2, ?_⟩⟩
      have c1 := back h2
      rcases q with ⟨k', _⟩ | ⟨_, c3, e', z⟩
      · have k' : X.env.scope.names.lookup y = some .local := k'
        rcases L.free _ (PySem.mem_of_lookup k) rfl with k2 | k2 <;> rw [show X.env.scope.names.lookup y = _ from k2] at k' <;> cases k'
      · rw [c1] at e'
        cases e'
        exact cellK (I.freeC y _ c1) z
  · obtain ⟨w', z⟩ := I.cell y c (back e)
    exact ⟨w', cellK (I.freeC y c (back e)) z⟩
  · obtain ⟨v, o, ho, hd⟩ := I.cell y c (back e)
    exact un.free c o ho (I.freeC y c (back e)) (by simp)
end
end LamD
set_option Elab.async false
set_option linter.all false
set_option maxRecDepth 100000
set_option maxHeartbeats 4000000
namespace LamD
open PySem PySem.Spec PyProof.Rows L2 LamX
abbrev tupO (v : Value) : Obj := { cls := .type "tuple", data := .seq #[v] }
section
variable {X : Cx} {pins : List (Addr × Obj)} {σ : L2.St} {H HZ : Hp} {s s1 : Shared}
/-- a(), in the def that got the lambda -/
theorem act {Eg : XK} {Ng : List Str} {qg : Str} {sg : Scope} {g f c' D : Addr} {cdg pm ctv v0 : Value} {params : Arguments} {body : Expr} {scope : Scope} {k : Nat} {a b : Str} {pn : List (Addr × Obj)} {xe : Value → Shared → Prop} {W : WX} {E : XK} {tb : TE} {p1 p2 : Pos}
    (I : Inv X pins σ H s) (L : Nm X.N X.env.scope scope) (hf : s.heap.get? f = some (obD (lq X) params body scope (cloFrom X.env.cells scope.names []) pm c' ctv (.ref D))) (hfn : H f = none) (hfr : f ∉ frs X.stack)
    (hD : s.heap.get? D = some (tupO v0)) (hDn : H D = none) (hDr : D ∉ frs X.stack)
    (hbind : ∃ kk, bindArgs (fnD (lq X) params body scope (cloFrom X.env.cells scope.names []) pm c' ctv (.ref D)) ⟨[], []⟩ = seqItems? (.ref D) >>= kk ∧ ∀ v, kk (some #[v]) = pure [(b, v)]) (hb : scope.names.lookup b = some .local)
    (tk : Takes ((cxOf C8.CX0 X.prog X.w X.K X.mg X.base Ng qg sg g cdg X.A X.stack s H Eg).tr pn xe) W) (hW : ∀ cls d σ' H', E cls d H' → W cls d σ' H') (hr : Room (k + 1) (X.A.deeper (envOfC qg sg s.heap.objs.size g cdg)))
    (hbody : ∀ (A : Around) (outer : List Env) (s : Shared) (H : Hp), Room k (A.deeper (lamEnv X scope s.heap.objs.size f c')) → PE (lamCx X A outer s H E scope f c') body tb)
    (hN : Ng[0]? = some a) (hv : Vis sg a) (hd : (a == ("__debug__" : Str)) = false := by decide) (hcd : (a == ("__classdict__" : Str)) = false := by decide) :
    PE ((cxOf C8.CX0 X.prog X.w X.K X.mg X.base Ng qg sg g cdg X.A X.stack s H Eg).tr pn xe) (.Call (.Name a p1) [] [] p2)
      (fun σZ HZ Q => σZ[0]? = some (some (.ref f)) ∧ HZ c' = some (CodeO c' (lq X)) ∧ tb σ HZ Q) := by
  refine ⟨fun pinsZ sZ σZ HZ Q IZ h => ?_⟩
  obtain ⟨hs, hc, ht⟩ := h
  refine wpAny_Call_Name_kw (thn ((pe_var (pos := p1) (i := 0) hN hv hd hcd).run pinsZ sZ σZ HZ (fun v H1 => v = .ref f ∧ H1 = HZ) IZ ⟨.ref f, hs, rfl, rfl⟩) fun u s1 ⟨v, H1, I1, r1, ev, eH⟩ => ?_)
  subst ev
  rw [eH] at I1
  obtain rfl : u = Value.ref f := r1
  have nil : ∀ y : Addr, y ∉ ([] : List Addr) := fun y z => nomatch z
  have of1 := I1.base.keep f _ hf hfn hfr (nil f)
  have oD1 := I1.base.keep D _ hD hDn hDr (nil D)
  refine PySem.W.callWith_F0 ⟨_, _, _, _, of1⟩ ?_
  have un : Un (frs X.stack) [] H HZ s.heap s1.heap := I1.base
  obtain ⟨⟨oc, vs, t, hoc, hdc, hvc⟩, _, _⟩ := I1.hok c' _ hc
  have rc : codeAny (model X.prog X.w) (X.A.deeper (envOfC qg sg s.heap.objs.size g cdg)) (.call (.ref f) ⟨[], []⟩) (CR (L2.CX X.prog X.w) (envOfC qg sg s.heap.objs.size g cdg :: X.stack) X.prog X.w HZ s1 Q E) s1 := by
    refine PySem.W.kla_callFunE hr.depth of1 rfl L.co L.gen rfl ⟨c', oc, vs, t, rfl, hoc, hdc, hvc⟩ ?_
    obtain ⟨kk, e1, e2⟩ := hbind
    rw [e1]
    refine wpAny_bind (wpAny_seqItems oD1 rfl ?_)
    rw [e2]
    refine wpAny_pure (wpAny_newFunctionEnv (fun y hy => (L.own y hy).1) (fun y hy => ?_) (fun h₁ hns hsb => ⟨I1.nolimit.fresh _ hsb, ?_⟩) L.kind)
    · rw [List.mem_singleton.mp hy]
      exact hb
    · show codeAny _ _ (.expr body (lamEnv X scope s1.heap.objs.size f c')) _ _
      have kp : ∀ b o, s1.heap.get? b = some o → h₁.get? b = some o := fun b o e => hsb.extBut b o (Nat.ne_of_lt (Heap.lt_size e)) (Heap.get?_push_of_some _ e)
      have J := start_ok (E := E) (f := f) (c' := c') (tk := s1.toks + ([(b, v0)] : List (Str × Value)).length) I L I1.env0 hr.hd un hns kp
      refine PySem.W.kla_codeExpr (wpAny_mono ((hbody _ _ s1 HZ (hr.deeper _)).run [] _ _ HZ Q J ht) (fun v s' hq => ?_) fun e s' hq => hq)
      obtain ⟨w', H', J', rv, q⟩ := hq
      exact ⟨w', H', J'.os, J'.bare, J'.base, J'.hok, rv, q⟩
  have hx : Passes (L2.CX X.prog X.w) ((cxOf C8.CX0 X.prog X.w X.K X.mg X.base Ng qg sg g cdg X.A X.stack s H Eg).tr pn xe) E := passes_call tk hW
  refine wpAny_call (codeAny_mono rc fun r s' hq => ?_)
  cases r with
  | error e => exact hx pinsZ σZ HZ s1 e s' I1 hq
  | ok fl =>
    cases fl with
    | ret u => exact I1.after hq
    | next => exact False.elim hq
    | brk => exact False.elim hq
    | cont => exact False.elim hq
/-- x(lambda b=n: body) -/
theorem pe_lamD {T : List (Addr × Str)} {TT : (XK → Hp → VK → Prop) → Hp → VK → Prop} {x a b : Str} {g c P : Addr} {k : Nat} {pg : Arguments} {bg : List Stmt} {sg : Scope} {dV kV doc pm cdv ct oc : Value} {an od : Option Addr} {osl : Array (Option Value)} {Ng : List Str}
    {params : Arguments} {body : Expr} {scope : Scope} {t : XK → TE} {p lpos pos p0 : Pos} {n : Int} {j : Nat} (hg : Gl X x) (hm : X.mg x = some (.ref g)) (hk : PySem.W.keepIn X.K (.ref g) = true)
    (lk : X.K.lookup g = some ⟨oc, od, .func (PySem.W.fnOf x x pg bg sg dV kV doc pm an cdv ct), osl⟩) (hcg : PySem.W.codeIn X.K cdv x = true) (hb : L2.Binds X.K (PySem.W.fnOf x x pg bg sg dV kV doc pm an cdv ct) [a] []) (Sg : FnScope Ng [a] sg) (hNg : Ng[0]? = some a) (hva : Vis sg a)
    (hG : GivesTo X Ng x sg g cdv bg a (lq X) TT)
    (TB : TabB X.base X.mg c P) (hcode : X.env.code = .ref c) (hmT : (P, lq X) ∈ T) (hu : ∀ p ∈ T, p.1 = P → p.2 = lq X) (hr : Room (k + 2) X.A) (L : Nm X.N X.env.scope scope)
    (hdef : defaultsOf params X.env = ([eval (.Constant (.int n) j p0) X.env], []))
    (hbind : ∀ (q : Str) (cl : List (Str × Addr)) (pm : Value) (c' : Addr) (ctv : Value) (D : Addr), ∃ kk, bindArgs (fnD q params body scope cl pm c' ctv (.ref D)) ⟨[], []⟩ = seqItems? (.ref D) >>= kk ∧ ∀ v, kk (some #[v]) = pure [(b, v)]) (hlb : scope.names.lookup b = some .local)
    (hbody : ∀ (A : Around) (outer : List Env) (s : Shared) (H : Hp) (E : XK) (f c' : Addr), Room k (A.deeper (lamEnv X scope s.heap.objs.size f c')) → PE (lamCx X A outer s H E scope f c') body (t E))
    (hdb : (x == ("__debug__" : Str)) = false := by decide) (hd : (a == ("__debug__" : Str)) = false := by decide) (hcd : (a == ("__classdict__" : Str)) = false := by decide) :
    PE X (.Call (.Name x p) [.Lambda params body scope lpos] [] pos) (tLam T TT t) := by
  refine ⟨fun pins s σ H Q I h => ?_⟩
  obtain ⟨hT, h⟩ := h
  refine wpAny_Call_Name_kw (ld_glob I hg hm ?_ hdb)
  refine PySem.W.callWith_K (h₀ := X.base) I.ok.mod.kin hk ?_ (by rfl) (by rfl)
  show wpAny _ _ (spliced ((false, eval (.Lambda params body scope lpos) X.env) :: backTo pos (starEach [] X.env))) _ _ s
  refine Calls.spliced_cons ?_
  rw [arm_eval_Lambda, hdef]
  show wpAny _ _ (do
    let dv ← (do let v ← eval (.Constant (.int n) j p0) X.env; return v :: (← holding [v] (evalAll [])))
    let kdv ← holding dv (evalAllOpt [])
    makeFunction "<lambda>" (lq X) params (.expr body) scope X.env dv kdv [] lpos lpos.line) _ _ s
  refine wpAny_bind (wpAny_bind (thn ((pe_int (X := X) (i := n) (j := j) (pos := p0)).run pins s σ H (fun v H1 => v = .int n ∧ H1 = H) I ⟨rfl, rfl⟩) fun u s0 ⟨v, H0, I0, r0, ev, eH⟩ => ?_))
  rw [eH] at I0
  refine wpAny_bind (wpAny_holding (wpAny_pure (wpAny_pure (wpAny_bind (wpAny_holding (wpAny_pure ?_))))))
  rw [makeFunction_eq]
  simp only [List.zip_nil_right, List.filterMap_nil, List.isEmpty_nil, List.isEmpty_cons, Bool.false_eq_true, if_false, if_true, pure_bind]
  refine wpAny_bind (wpAny_newTextTuple ?_)
  have I2 : Inv X pins σ H { s0 with heap := s0.heap.push (tupO u) } := I0.kept fun b o e => Heap.get?_push_of_some _ e
  have fresh : s0.heap.objs.size ∉ frs X.stack := fun z => by
    rcases List.mem_cons.mp (I0.stkSub _ z) with e | e
    · have h1 := I0.lt
      rw [← e] at h1
      exact Nat.lt_irrefl _ h1
    · exact I0.nofs (Nat.le_refl _) e
  have nDP : s0.heap.objs.size ≠ P := fun z => by
    obtain ⟨ps, hP, _⟩ := hT _ hmT
    have q := Heap.lt_size (show s0.heap.get? P = some (tabOf ps) from I0.hok P _ hP)
    rw [z] at q
    exact Nat.lt_irrefl _ q
  refine made I2 TB hcode hmT hu hT (L.has I.ok) fun f c' pm' ctv H1 s' I1 eN T1 kp fr hf hfn hfr hco => ?_
  have hD : s'.heap.get? s0.heap.objs.size = some (tupO u) := kp _ _ nDP (Heap.get?_push_size _ rfl)
  have hDn : H1 s0.heap.objs.size = none := fr _ (tupO u) (Heap.get?_push_size _ rfl) (I0.hok.fresh (Nat.le_refl _))
  refine Calls.spliced_nil ⟨I1.kIn, ?_⟩
  have rc : codeAny (model X.prog X.w) X.A (.call (.ref g) ⟨[.ref f], []⟩) (CR C8.CX0 X.stack X.prog X.w H1 s' Q C8.E0) s' := by
    refine run_ofS (N := Ng) (ps := [a]) (us := [.ref f]) (vs := [.ref f]) lk hcg Sg hr I1.env0 (hb s' [.ref f] I1.kIn rfl) (.cons rfl .nil) rfl fun hr' => ?_
    obtain ⟨t', ht', hq'⟩ := hG f c' s' H1 Q (fun E H' Q' => t E σ H' Q') (fun W pn xe E p1 p2 tk hW => act I1 L hf hfn hfr hD hDn fresh (hbind _ _ _ _ _ _) hlb tk hW hr' (fun A outer s H hr2 => hbody A outer s H E f c' hr2) hNg hva hd hcd) hco (h H1 eN T1)
    exact ⟨t', ht'.nox, hq'⟩
  refine wpAny_call (codeAny_mono rc fun r s2 hq => ?_)
  cases r with
  | error e => exact (show False from hq).elim
  | ok fl =>
    cases fl with
    | ret u => exact I1.after hq
    | next => exact False.elim hq
    | brk => exact False.elim hq
    | cont => exact False.elim hq
end
end LamD
namespace LamD
open PySem L2
def nmB (N : List Str) (sc scope : Scope) : Bool :=
  decide (scope.kind = .function) && (!scope.isCoroutine && (!scope.isGenerator && ((scope.names.all fun y => decide (y.2 ≠ .cell) && (decide (y.2 ≠ .local) || decide (y.1 ∉ N))) && scope.names.all fun y => decide (y.2 ≠ .free) || (decide (sc.names.lookup y.1 = some .cell) || decide (sc.names.lookup y.1 = some .free)))))
theorem nm_by {N : List Str} {sc scope : Scope} (h : nmB N sc scope = true) : Nm N sc scope := by
  unfold nmB at h
  simp only [Bool.and_eq_true, Bool.or_eq_true, Bool.not_eq_true', decide_eq_true_eq, List.all_eq_true] at h
  obtain ⟨h1, h2, h3, h4, h5⟩ := h
  refine ⟨h1, h2, h3, fun y hy => ⟨(h4 y hy).1, fun e => (h4 y hy).2.resolve_left fun z => z e⟩, fun y hy e => (h5 y hy).resolve_left fun z => z e⟩
end LamD
set_option Elab.async false
set_option linter.all false
set_option maxRecDepth 100000
set_option maxHeartbeats 4000000
namespace K65
open PySem PySem.Spec PyProof.Rows L2
theorem scRefused : FnScope ["_law_ask"] ["_law_ask"] (defScope sRefused) := ⟨rfl, rfl, rfl, by decide +kernel, rfl, by decide +kernel, by decide +kernel⟩
theorem scRight : FnScope ["_law_state", "_law_row_here", "_law_k", "_law_near", "_law_some", "_law_n", "_law_odd", "_law_many"] ["_law_state"] (defScope sRight) := ⟨rfl, rfl, rfl, by decide +kernel, rfl, by decide +kernel, by decide +kernel⟩
theorem tyX_ext {K : PySem.W.Frag} {H H' : Hp} {x : V} {t : Value} (e : LamX.ExtN H H') (h : TyX K H x t) : TyX K H' x t := by
  cases h with
  | base b =>
    cases b with
    | non => exact .base .non
    | bl b => exact .base (.bl b)
    | int i => exact .base (.int i)
    | str z => exact .base (.str z)
    | flt z => exact .base (.flt z)
    | lst h => exact .base (.lst (e _ _ h (fun _ z => nomatch z)))
    | frz h => exact .base (.frz (e _ _ h (fun _ z => nomatch z)))
    | tup h => exact .base (.tup (e _ _ h (fun _ z => nomatch z)))
    | dK h => exact .base (.dK (e _ _ h (fun _ z => nomatch z)))
    | dT h => exact .base (.dT (e _ _ h (fun _ z => nomatch z)))
    | ins h a b c d f => exact .base (.ins (e _ _ h (fun _ z => nomatch z)) a b c d f)
  | byt b => exact .byt b
  | set h => exact .set (e _ _ h (fun _ z => nomatch z))
  | kList h c => exact .kList h c
  | kTuple h c => exact .kTuple h c
  | kDict h c => exact .kDict h c
  | fTuple h => exact .fTuple (e _ _ h (fun _ z => nomatch z))
  | fDict h => exact .fDict (e _ _ h (fun _ z => nomatch z))
theorem Wh.ext {K : PySem.W.Frag} {H H' : Hp} {x : V} {lo hi : Int} {b : Bool} (h : Wh K H x lo hi b) (e : LamX.ExtN H H') : Wh K H' x lo hi b := by
  cases h with
  | int i => exact .int i lo hi
  | bl b => exact .bl b lo hi
  | other _ _ ty hn => exact .other lo hi (tyX_ext e ty) hn
theorem extN_but {l : Addr} {H H' : Hp} {xs : List V} (b : But l H H') (n : ∀ c o, H c = some o → c ≠ l) : LamX.ExtN H H' := fun c o h _ => b c o (n c o h) h
def TRef (K : PySem.W.Frag) (C : Addr) : (XK → Hp → VK → Prop) → Hp → VK → Prop := fun tl H Q =>
  tl (fun cls _ H' => PySem.W.exmOne K cls (.ref C) = some true ∧ Q (.bl true) H') H fun _ H' => Q (.bl false) H'
theorem refused_gives {X : Cx} {CN CM g : Addr} {cdg : Value} {q : Str} (T : No X.K X.mg CN CM) : LamX.GivesTo X ["_law_ask"] "_law_is_refused" (defScope sRefused) g cdg (defBody sRefused) "_law_ask" q (TRef X.K CN) := by
  intro f c' s H Q tl act hc h
  refine ⟨_, pss_cons (ps_try_many (X := (cxOf C8.CX0 X.prog X.w X.K X.mg X.base ["_law_ask"] "_law_is_refused" (defScope sRefused) g cdg X.A X.stack s H C8.E0).nox)
      (tb := fun W D σ H => ∃ Ech : XK, (∀ cls d σ' H', Ech cls d H' → W cls d σ' H') ∧ σ[0]? = some (some (.ref f)) ∧ H c' = some (LamX.CodeO c' q) ∧ tl Ech H (fun _ H' => D.nx σ H'))
      (l := [(.ref CN, fun _ _ _ => tRet (tC (.bl true))), (.ref CM, fun _ _ _ => tRet (tC (.bl false)))])
      rfl rfl takes_none5 (fun W pn xe tk _ => ?_)
      (.cons ⟨by rfl, by decide, .inl T.g⟩ (fun a oe cls d pn _ _ => pss_one (ps_ret pe_bl)) (.cons ⟨by rfl, by decide, .inl T.gM⟩ (fun a oe cls d pn _ _ => pss_one (ps_ret pe_bl)) .nil)))
    (pss_one (ps_ret pe_bl)), ?_⟩
  · refine ⟨fun pins s' σ H' D I h' => ?_⟩
    obtain ⟨Ech, hW, h1, h2, h3⟩ := h'
    exact (pss_one (ps_expr (act W pn xe Ech _ _ tk hW))).run pins s' σ H' D I ⟨h1, h2, h3⟩
  · exact ⟨fun cls _ H' => PySem.W.exmOne X.K cls (.ref CN) = some true ∧ Q (.bl true) H', fun cls d σ' H' ⟨e1, e2⟩ => ⟨true, e1, fun _ a _ => e2, fun z => nomatch z⟩, rfl, hc, h⟩
section
variable {P : Program} {w : World} {K : PySem.W.Frag} {mg : Str → Option Value} {base : Heap}
theorem bad_after {f fW CN CM : Addr} {fd fdW : FuncData} {k : Nat} (F : Fun K "most_after" "most_after" sAfter f fd) (B : Bi mg) (FW : Fun K "is_whole" "is_whole" sWhole fW fdW) (bW : Binds K fdW ["thing", "low", "high"] []) (gW : mg "is_whole" = some (.ref fW)) (T : No K mg CN CM) : FnOk P w K mg base (L2.CX P w) (k + 2) f fd ["k"] (spBad K CN 0 12) := by
  have GW : FnOk P w K mg base CX0 (k + 1) fW fdW ["thing", "low", "high"] (spWhole K) := ok_whole FW B
  refine F.okX scAfter (fun vs H Q E h => ?_) (fun cdv A outer s H vs Q E hr h => ?_)
  · obtain ⟨x, rfl, _⟩ := h
    rfl
  · obtain ⟨x, rfl, hw, q⟩ := h
    refine ⟨_, pss_cons (ps_if (pt_not (pt_val (pe_call GW hr (by rfl) gW FW.kp bW .nil pass0 (pa_cons (pv 0) (pa_cons pe_int (pa_cons pe_int pa_nil)))))) (pss_one (ps_raise rfl (takes_of rfl rfl rfl rfl) (pmk_own PySem.F.excBase_ValueError T.x T.g T.k (raises_own T.b T.t) rfl))) pss_nil)
      (pss_cons ps_never (pss_cons ps_never (pss_one ps_never))), ?_⟩
    exact ⟨_, rfl, _, _, _, _, rfl, hw, _, rfl, iteT q⟩
theorem bad_binds {f fW CN CM : Addr} {fd fdW : FuncData} {k : Nat} (F : Fun K "most_by_binds" "most_by_binds" sBinds f fd) (B : Bi mg) (FW : Fun K "is_whole" "is_whole" sWhole fW fdW) (bW : Binds K fdW ["thing", "low", "high"] []) (gW : mg "is_whole" = some (.ref fW)) (T : No K mg CN CM) : FnOk P w K mg base (L2.CX P w) (k + 2) f fd ["k"] (spBad K CN 0 12) := by
  have GW : FnOk P w K mg base CX0 (k + 1) fW fdW ["thing", "low", "high"] (spWhole K) := ok_whole FW B
  refine F.okX scBinds (fun vs H Q E h => ?_) (fun cdv A outer s H vs Q E hr h => ?_)
  · obtain ⟨x, rfl, _⟩ := h
    rfl
  · obtain ⟨x, rfl, hw, q⟩ := h
    refine ⟨_, pss_cons (ps_if (pt_not (pt_val (pe_call GW hr (by rfl) gW FW.kp bW .nil pass0 (pa_cons (pv 0) (pa_cons pe_int (pa_cons pe_int pa_nil)))))) (pss_one (ps_raise rfl (takes_of rfl rfl rfl rfl) (pmk_own PySem.F.excBase_ValueError T.x T.g T.k (raises_own T.b T.t) rfl))) pss_nil)
      (pss_cons ps_never (pss_cons ps_never (pss_one ps_never))), ?_⟩
    exact ⟨_, rfl, _, _, _, _, rfl, hw, _, rfl, iteT q⟩
theorem bad_to {f fW CN CM : Addr} {fd fdW : FuncData} {k : Nat} (F : Fun K "fewest_to" "fewest_to" sTo f fd) (B : Bi mg) (FW : Fun K "is_whole" "is_whole" sWhole fW fdW) (bW : Binds K fdW ["thing", "low", "high"] []) (gW : mg "is_whole" = some (.ref fW)) (T : No K mg CN CM) : FnOk P w K mg base (L2.CX P w) (k + 2) f fd ["n"] (spBad K CN 1 (10 ^ 60)) := by
  have GW : FnOk P w K mg base CX0 (k + 1) fW fdW ["thing", "low", "high"] (spWhole K) := ok_whole FW B
  refine F.okX scTo (fun vs H Q E h => ?_) (fun cdv A outer s H vs Q E hr h => ?_)
  · obtain ⟨x, rfl, _⟩ := h
    rfl
  · obtain ⟨x, rfl, hw, q⟩ := h
    refine ⟨_, pss_cons (ps_if (pt_not (pt_val (pe_call GW hr (by rfl) gW FW.kp bW .nil pass0 (pa_cons (pv 0) (pa_cons pe_int (pa_cons (pe_op op_pow pe_int pe_int) pa_nil)))))) (pss_one (ps_raise rfl (takes_of rfl rfl rfl rfl) (pmk_own PySem.F.excBase_ValueError T.x T.g T.k (raises_own T.b T.t) rfl))) pss_nil)
      (pss_cons ps_never (pss_cons ps_never (pss_cons ps_never (pss_one ps_never)))), ?_⟩
    exact ⟨_, rfl, 10, 60, rfl, rfl, ⟨by decide, by decide, by decide⟩, _, _, _, _, rfl, hw, _, rfl, iteT q⟩
end
end K65
set_option Elab.async false
set_option linter.all false
set_option maxRecDepth 100000
set_option maxHeartbeats 8000000
namespace K65
open PySem PySem.Spec PyProof.Rows L2
/-- a def, called by its name -/
structure Cl (P : Program) (w : World) (K : PySem.W.Frag) (mg : Str → Option Value) (base : Heap) (CX : CXT) (k : Nat) (x : Str) (ps : List Str) (sp : Sp) : Prop where
  ex : ∃ f fd, FnOk P w K mg base CX k f fd ps sp ∧ mg x = some (.ref f) ∧ PySem.W.keepIn K (.ref f) = true ∧ Binds K fd ps []
section
variable {X : Cx} {CX : CXT} {k j : Nat} {x : Str} {ps : List Str} {sp : Sp} {e : Expr} {es : List Expr} {t : TA} {p pos : Pos} {E : XK}
theorem pe_cl (c : Cl X.prog X.w X.K X.mg X.base CX k x ps sp) (hr : Room j X.A) (hk : k ≤ j) (hg : Gl X x) (hx : Passes CX X E) (ha : PA X (e :: es) t)
    (hdb : (x == ("__debug__" : Str)) = false := by decide) (he : starEach (e :: es) X.env = (false, eval e X.env) :: starEach es X.env := by rfl) (hpl : (backTo pos (starEach es X.env)).any (·.1) = false := by rfl) :
    PE X (.Call (.Name x p) (e :: es) [] pos) (tCall sp [] E t) := by
  obtain ⟨f, fd, F, hm, kp, b⟩ := c.ex
  exact pe_call F (hr.mono hk) hg hm kp b .nil hx ha hdb he hpl
theorem pe_cl0 (c : Cl X.prog X.w X.K X.mg X.base CX k x ps sp) (hr : Room j X.A) (hk : k ≤ j) (hg : Gl X x) (hx : Passes CX X E)
    (hdb : (x == ("__debug__" : Str)) = false := by decide) : PE X (.Call (.Name x p) [] [] pos) (tCall sp [] E tNil) := by
  obtain ⟨f, fd, F, hm, kp, b⟩ := c.ex
  exact pe_call0 F (hr.mono hk) hg hm kp b .nil hx hdb
end
/-- what _law_is_refused looks like behind the top -/
structure RefF (K : PySem.W.Frag) (mg : Str → Option Value) (g : Addr) : Prop where
  ex : ∃ (oc : Value) (od : Option Addr) (dV kV doc pm : Value) (an : Option Addr) (cdv ct : Value) (osl : Array (Option Value)),
    K.lookup g = some ⟨oc, od, .func (PySem.W.fnOf "_law_is_refused" "_law_is_refused" (defArgs sRefused) (defBody sRefused) (defScope sRefused) dV kV doc pm an cdv ct), osl⟩ ∧ PySem.W.codeIn K cdv "_law_is_refused" = true ∧
    Binds K (PySem.W.fnOf "_law_is_refused" "_law_is_refused" (defArgs sRefused) (defBody sRefused) (defScope sRefused) dV kV doc pm an cdv ct) ["_law_ask"] []
  gg : mg "_law_is_refused" = some (.ref g)
  k : PySem.W.keepIn K (.ref g) = true
/-- all defs that the law comes to -/
structure Defs (P : Program) (w : World) (K : PySem.W.Frag) (mg : Str → Option Value) (base : Heap) (CN : Addr) : Prop where
  after : Cl P w K mg base CX0 2 "most_after" ["k"] spAfter
  binds : Cl P w K mg base CX0 2 "most_by_binds" ["k"] spBinds
  to : Cl P w K mg base CX0 2 "fewest_to" ["n"] spTo
  afterX : Cl P w K mg base (L2.CX P w) 2 "most_after" ["k"] (spBad K CN 0 12)
  bindsX : Cl P w K mg base (L2.CX P w) 2 "most_by_binds" ["k"] (spBad K CN 0 12)
  toX : Cl P w K mg base (L2.CX P w) 2 "fewest_to" ["n"] (spBad K CN 1 (10 ^ 60))
  digit : Cl P w K mg base CX0 1 "_law_digit" ["_law_state", "_law_base"] spDigit
  pick : Cl P w K mg base CX0 2 "_law_pick" ["_law_state", "_law_some"] spPick
  row : Cl P w K mg base CX0 1 "_law_row" [] spRow
  tens : Cl P w K mg base CX0 1 "_law_tens" ["_law_many"] spTens
  doubled : Cl P w K mg base CX0 1 "_law_doubled" ["_law_k"] spBinds
  fewest : Cl P w K mg base CX0 1 "_law_fewest" ["_law_row_here", "_law_n"] (spFewest K)
/-! ### mathematics -/
theorem lt13_60 : lt13 (10 ^ 60) 13 = row 9 := by decide +kernel
def mapR (g : Int → Int) (n : Nat) : List V := (List.range n).map fun i => V.int (g (aN i))
theorem mapR_succ (g : Int → Int) (n : Nat) : mapR g (n + 1) = mapR g n ++ [.int (g (aN n))] := by
  unfold mapR
  rw [List.range_succ, List.map_append]
  rfl
theorem mapR_len (g : Int → Int) (n : Nat) : (mapR g n).length = n := by
  unfold mapR
  rw [List.length_map, List.length_range]
def mapS (g : Int → Int) (n : Nat) : List V := (List.range n).map fun i => V.int (g (aN (i + 1)))
theorem mapS_succ (g : Int → Int) (n : Nat) : mapS g (n + 1) = mapS g n ++ [.int (g (aN (n + 1)))] := by
  unfold mapS
  rw [List.range_succ, List.map_append]
  rfl
theorem mapS_len (g : Int → Int) (n : Nat) : (mapS g n).length = n := by
  unfold mapS
  rw [List.length_map, List.length_range]
theorem mapS_get {g : Int → Int} {n i : Nat} (h : i < n) : (mapS g n)[i]? = some (.int (g (aN (i + 1)))) := by
  unfold mapS
  rw [List.getElem?_map, List.getElem?_range h]
  rfl
theorem cut_row : cutV (row 9) (some 1) none = mapS (fun a => a) 8 := by decide +kernel
def some1 : List V := row 9 ++ mapR (fun a => a + 1) 9 ++ mapS (fun a => a - 1) 8
def inB (v : V) : Bool := match v with | .int z => decide (1 ≤ z) && decide (z ≤ 10 ^ 60) | _ => false
theorem some1_ok : some1.all inB = true := by decide +kernel
theorem tN_le {n : Nat} (h : n ≤ 49) : 0 ≤ tN n ∧ tN n ≤ 10 ^ 49 := by
  have all : ∀ n, n < 50 → (decide (0 ≤ tN n) && decide (tN n ≤ 10 ^ 49)) = true := by decide +kernel
  have q := all n (by omega)
  simp only [Bool.and_eq_true, decide_eq_true_eq] at q
  exact q
theorem drawn_ok {d1 d2 : Nat} (h1 : (d1 : Int) < 10 ^ 9) (h2 : (d2 : Int) < 50) : inB (.int (1 + (d1 : Int) * tN d2)) = true := by
  obtain ⟨a, b⟩ := tN_le (n := d2) (by omega)
  have h3 : 0 ≤ (d1 : Int) * tN d2 := Int.mul_nonneg (by omega) a
  have h4 : (d1 : Int) * tN d2 ≤ 10 ^ 9 * 10 ^ 49 := Int.mul_le_mul (by omega) b a (by decide)
  have h5 : (10 : Int) ^ 9 * 10 ^ 49 + 1 ≤ 10 ^ 60 := by decide
  unfold inB
  simp only [Bool.and_eq_true, decide_eq_true_eq]
  omega
/-! ### heaps -/
theorem Same.but {H H' : Hp} (l : Addr) (s : Same H H') : But l H H' := fun b o _ h => s b o h
theorem tabs_but {T : List (Addr × Str)} {H H' : Hp} {l : Addr} {st : List V} (t : LamX.Tabs T H) (hl : H l = some (.lst st)) (b : But l H H') : LamX.Tabs T H' := fun p hp => by
  obtain ⟨ps, h1, h2, h3⟩ := t p hp
  refine ⟨ps, b _ _ (fun z => by rw [z, hl] at h1; cases h1) h1, h2, fun pos cv hc => ?_⟩
  obtain ⟨c, e1, e2⟩ := h3 pos cv hc
  refine ⟨c, e1, b _ _ (fun z => ?_) e2⟩
  rw [z, hl] at e2
  cases (show HO.lst st = HO.ext _ from Option.some.inj e2)
/-- all but l and the tables -/
def ButN (l : Addr) (H H' : Hp) : Prop := ∀ b o, b ≠ l → (∀ ps, o ≠ .tbl ps) → H b = some o → H' b = some o
theorem But.n {l : Addr} {H H' : Hp} (b : But l H H') : ButN l H H' := fun c o n _ h => b c o n h
theorem ButN.trans {l : Addr} {H H1 H2 : Hp} (a : ButN l H H1) (b : ButN l H1 H2) : ButN l H H2 := fun c o n m h => b c o n m (a c o n m h)
theorem ButN.ext {l : Addr} {H H' : Hp} (e : LamX.ExtN H H') : ButN l H H' := fun c o _ m h => e c o h m
def lamQ : Str := (("_law_right" : Str) ++ ".<locals>.") ++ "<lambda>"
def tabs (P : Addr) : List (Addr × Str) := [(P, lamQ)]
def spRight (Pt : Addr) : Sp := fun vs H Q _ => ∃ l st, vs = [.ref l] ∧ H l = some (.lst st) ∧ StOk st ∧ LamX.Tabs (tabs Pt) H ∧ ∀ H', LamX.Tabs (tabs Pt) H' → ButN l H H' → Q (.bl true) H'
end K65
set_option Elab.async false
set_option linter.all false
set_option maxRecDepth 100000
set_option maxHeartbeats 16000000
namespace K65
open PySem PySem.Spec PyProof.Rows L2
/-! ### statements by what holds ahead and behind -/
def Ho (X : Cx) (st : Stmt) (p q : L2.St → Hp → Prop) : Prop := ∃ t, PS X st t ∧ ∀ (D : Ends) σ H, p σ H → (∀ σ' H', q σ' H' → D.nx σ' H') → t D σ H
def HoR (X : Cx) (sts : List Stmt) (p : L2.St → Hp → Prop) (r : VK) : Prop := ∃ t, PSs X sts t ∧ ∀ (D : Ends) σ H, p σ H → (∀ v H', r v H' → D.rt v H') → t D σ H
theorem HoR.cons {X : Cx} {st : Stmt} {rest : List Stmt} {p q : L2.St → Hp → Prop} {r : VK} (a : Ho X st p q) (b : HoR X rest q r) : HoR X (st :: rest) p r := by
  obtain ⟨t, ht, h1⟩ := a
  obtain ⟨u, hu, h2⟩ := b
  exact ⟨_, pss_cons ht hu, fun D σ H hp hr => h1 _ σ H hp fun σ' H' hq => h2 D σ' H' hq hr⟩
abbrev nR : List Str := ["_law_state", "_law_row_here", "_law_k", "_law_near", "_law_some", "_law_n", "_law_odd", "_law_many"]
def stR (i : Nat) : Stmt := (defBody sRight).getD i (.Pass ⟨0, 0, 0, 0⟩)
section
variable {K : PySem.W.Frag}
theorem wh_pick {H : Hp} {pt pl pd : Addr} (h1 : H pt = some (.tup [.int 1])) (h2 : H pl = some (.lst [.int 1])) (h3 : H pd = some (.dK [])) {j : Nat} {v : V}
    (hj : ([.int (-1), .int 13, .int (10 ^ 30), .bl true, .bl false, .non, .str "3", .ref pt, .ref pl, .ref pd] : List V)[j]? = some v) : Wh K H v 0 12 false := by
  match j, hj with
  | 0, h => cases h; exact .int (-1) 0 12
  | 1, h => cases h; exact .int 13 0 12
  | 2, h => cases h; exact .int (10 ^ 30) 0 12
  | 3, h => cases h; exact .bl _ _ _
  | 4, h => cases h; exact .bl _ _ _
  | 5, h => cases h; exact .other _ _ (.base .non) (by decide +kernel)
  | 6, h => cases h; exact .other _ _ (.base (.str _)) (by decide +kernel)
  | 7, h => cases h; exact .other _ _ (.base (.tup h1)) (by decide +kernel)
  | 8, h => cases h; exact .other _ _ (.base (.lst h2)) (by decide +kernel)
  | 9, h => cases h; exact .other _ _ (.base (.dK h3)) (by decide +kernel)
theorem wh_pick2 {H : Hp} {pt pl pd : Addr} (h1 : H pt = some (.tup [.int 1])) (h2 : H pl = some (.lst [.int 1])) (h3 : H pd = some (.dK [])) {j : Nat} {v : V}
    (hj : ([.int 0, .int (-1), .int (10 ^ 60 + 1), .int (10 ^ 60 * 10 ^ 30), .bl true, .non, .str "3", .ref pt, .ref pl, .ref pd] : List V)[j]? = some v) : Wh K H v 1 (10 ^ 60) false := by
  match j, hj with
  | 0, h => cases h; exact .int 0 1 (10 ^ 60)
  | 1, h => cases h; exact .int (-1) 1 (10 ^ 60)
  | 2, h => cases h; exact .int (10 ^ 60 + 1) 1 (10 ^ 60)
  | 3, h => cases h; exact .int (10 ^ 60 * 10 ^ 30) 1 (10 ^ 60)
  | 4, h => cases h; exact .bl _ _ _
  | 5, h => cases h; exact .other _ _ (.base .non) (by decide +kernel)
  | 6, h => cases h; exact .other _ _ (.base (.str _)) (by decide +kernel)
  | 7, h => cases h; exact .other _ _ (.base (.tup h1)) (by decide +kernel)
  | 8, h => cases h; exact .other _ _ (.base (.lst h2)) (by decide +kernel)
  | 9, h => cases h; exact .other _ _ (.base (.dK h3)) (by decide +kernel)
end
/-- the state's list, all else as at the entry -/
structure Bs (H : Hp) (l : Addr) (H' : Hp) : Prop where
  st : ∃ st, H' l = some (.lst st) ∧ StOk st
  but : But l H H'
theorem Bs.same {H H1 H2 : Hp} {l : Addr} (b : Bs H l H1) (s : Same H1 H2) : Bs H l H2 := ⟨let ⟨st, h, o⟩ := b.st; ⟨st, s _ _ h, o⟩, b.but.trans (Same.but l s)⟩
abbrev XR (P : Program) (w : World) (K : PySem.W.Frag) (mg : Str → Option Value) (base : Heap) (f c : Addr) (A : Around) (outer : List Env) (s : Shared) (H0 : Hp) (E0' : XK) : Cx := (cxOf CX0 P w K mg base nR "_law_right" (defScope sRight) f (.ref c) A outer s H0 E0').nox
def S0 (H : Hp) (l : Addr) (σ : L2.St) (H' : Hp) : Prop := σ = [some (.ref l), none, none, none, none, none, none, none] ∧ Bs H l H' ∧ H' = H
def S1 (H : Hp) (l : Addr) (σ : L2.St) (H' : Hp) : Prop := ∃ r, σ = [some (.ref l), some (.ref r), none, none, none, none, none, none] ∧ Bs H l H' ∧ r ≠ l ∧ H' r = some (.lst (row 13))
def S2 (H : Hp) (l : Addr) (σ : L2.St) (H' : Hp) : Prop := ∃ (r : Addr) (d : Nat), σ = [some (.ref l), some (.ref r), some (.int d), none, none, none, none, none] ∧ d ≤ 12 ∧ Bs H l H' ∧ r ≠ l ∧ H' r = some (.lst (row 13))
def S4 (H : Hp) (l : Addr) (σ : L2.St) (H' : Hp) : Prop := ∃ (r : Addr) (d : Nat) (D : Addr), σ = [some (.ref l), some (.ref r), some (.int d), some (.ref D), none, none, none, none] ∧ Bs H l H' ∧ r ≠ l ∧ H' r = some (.lst (row 13)) ∧ D ≠ l ∧ H' D = some (.lst (row 9))
def S5 (n : Nat) (H : Hp) (l : Addr) (σ : L2.St) (H' : Hp) : Prop := ∃ (r : Addr) (d : Nat) (D p : Addr) (xs : List V), σ = [some (.ref l), some (.ref r), some (.int d), some (.ref D), some (.ref p), none, none, none] ∧ Bs H l H' ∧ r ≠ l ∧ H' r = some (.lst (row 13)) ∧ p ≠ l ∧ H' p = some (.lst xs) ∧ xs.length ≤ n ∧ xs.all inB = true
def S7 (H : Hp) (l : Addr) (σ : L2.St) (H' : Hp) : Prop := ∃ a b c d e, σ = [some (.ref l), a, b, c, d, e, none, none] ∧ Bs H l H'
def S8 (K : PySem.W.Frag) (H : Hp) (l : Addr) (σ : L2.St) (H' : Hp) : Prop := ∃ a b c d e v, σ = [some (.ref l), a, b, c, d, e, some v, none] ∧ Bs H l H' ∧ Wh K H' v 0 12 false
def S9 (Pt : Addr) (H : Hp) (l : Addr) (σ : L2.St) (H' : Hp) : Prop := ∃ a b c d e v, σ = [some (.ref l), a, b, c, d, e, v, none] ∧ (∃ st, H' l = some (.lst st) ∧ StOk st) ∧ ButN l H H' ∧ LamX.Tabs (tabs Pt) H'
def S10 (K : PySem.W.Frag) (Pt : Addr) (H : Hp) (l : Addr) (σ : L2.St) (H' : Hp) : Prop := ∃ a b c d e v, σ = [some (.ref l), a, b, c, d, e, some v, none] ∧ ButN l H H' ∧ LamX.Tabs (tabs Pt) H' ∧ Wh K H' v 1 (10 ^ 60) false
section
variable {P : Program} {w : World} {K : PySem.W.Frag} {mg : Str → Option Value} {base : Heap} {f c Pt g CN CM l : Addr} {A : Around} {outer : List Env} {s : Shared} {H H0 : Hp} {E0' : XK} {roc : Value} {rod ran : Option Addr} {rdV rkV rdoc rpm rcdv rct : Value} {rosl : Array (Option Value)}
theorem hR0 (B : Bi mg) (D : Defs P w K mg base CN) (hr : Room 4 (XR P w K mg base f c A outer s H0 E0').A) :
    Ho (XR P w K mg base f c A outer s H0 E0') (stR 0) (S0 H l) (S1 H l) := by
  refine ⟨_, (ps_set (i := 1) scRight.nd rfl (.inl rfl) (pe_cl0 D.row hr (by decide) (by rfl) pass0)), ?_⟩
  rintro D σ H' ⟨rfl, b, rfl⟩ q
  refine ⟨rfl, fun r H1 hr1 h1 sm => q _ _ ⟨r, rfl, b.same sm, ?_, h1⟩⟩
  obtain ⟨st, hl, _⟩ := b.st
  exact (ne_of_none hl hr1).symm
theorem hR1 (B : Bi mg) (D : Defs P w K mg base CN) (hr : Room 4 (XR P w K mg base f c A outer s H0 E0').A) :
    Ho (XR P w K mg base f c A outer s H0 E0') (stR 1) (S1 H l) (S2 H l) := by
  refine ⟨_, (ps_set (i := 2) scRight.nd rfl (.inl rfl) (pe_cl D.digit hr (by decide) (by rfl) pass0 (pa_cons (pv 0) (pa_cons pe_int pa_nil)))), ?_⟩
  rintro D σ H' ⟨r, rfl, b, nr, h1⟩ q
  obtain ⟨st, hl, hst⟩ := b.st
  exact ⟨_, rfl, l, st, _, rfl, hl, hst, by decide, by decide, fun d st2 H2 hd hst2 hl2 bt2 => q _ _ ⟨r, d, rfl, by omega, ⟨⟨st2, hl2, hst2⟩, b.but.trans bt2⟩, nr, bt2 _ _ nr h1⟩⟩
theorem hR2 (B : Bi mg) (D : Defs P w K mg base CN) (hr : Room 4 (XR P w K mg base f c A outer s H0 E0').A) :
    Ho (XR P w K mg base f c A outer s H0 E0') (stR 2) (S2 H l) (S2 H l) := by
  refine ⟨_, (ps_if (PW.pt (pw_or (pt_cmpR op_ne (pe_cl D.after hr (by decide) (by rfl) pass0 (pa_cons (pv 2) pa_nil)) (pe_ix ix_list (pv 1) (pv 2) (fun _ _ => rfl)) (nomark _)) (pw_or (pt_cmpR op_ne (pe_cl D.binds hr (by decide) (by rfl) pass0 (pa_cons (pv 2) pa_nil)) (pe_cl D.doubled hr (by decide) (by rfl) pass0 (pa_cons (pv 2) pa_nil)) (nomark _)) (pw_or1 (pt_val (pe_callB call_isi (by rfl) B.isin (by decide +kernel) (pa_cons (pe_cl D.after hr (by decide) (by rfl) pass0 (pa_cons (pv 2) pa_nil)) (pa_cons (pe_bltn (v := .ty "bool") (by rfl) B.bool (by decide +kernel) rfl) pa_nil)))))))) (pss_one (ps_ret pe_bl)) pss_nil), ?_⟩
  rintro D σ H' ⟨r, d, rfl, hd, b, nr, h1⟩ q
  refine ⟨_, rfl, d, rfl, hd, _, rfl, _, rfl, r, _, d, _, rfl, rfl, SqL.of h1, atI_nat (row_get (by omega)), rfl, _, rfl, iteNS rfl ?_⟩
  refine ⟨_, rfl, d, rfl, hd, _, rfl, d, rfl, hd, rfl, _, rfl, iteNS rfl ?_⟩
  refine ⟨_, rfl, d, rfl, hd, _, .ty "bool", _, _, false, rfl, .ty _, .base (.int _), kit_ty (by decide +kernel), _, rfl, iteF ?_⟩
  exact q _ _ ⟨r, d, rfl, hd, b, nr, h1⟩
theorem hR3 (B : Bi mg) (D : Defs P w K mg base CN) (hr : Room 4 (XR P w K mg base f c A outer s H0 E0').A) :
    Ho (XR P w K mg base f c A outer s H0 E0') (stR 3) (S2 H l) (S4 H l) := by
  refine ⟨_, (ps_setLc (i := 3) (own := [("_law_many", 7)]) (g := gName 7) (by rfl) scRight.nd rfl rfl (sw_true rfl rfl rfl (by decide +kernel)) (pi_list (pv 1)) (blkOk_by (own := [("_law_many", 7)]) (N := nR) (sc := defScope sRight) (by decide +kernel)) (fun _ _ _ _ _ => pg_name (i := 7) scRight.nd rfl (Or.inl rfl)) (fun _ _ _ _ _ => pts_one (pt_cmpR op_lt (pv 7) (pe_op op_pow pe_int pe_int) (nomark _))) (fun _ _ _ _ _ => pv 7)), ?_⟩
  rintro D σ H' ⟨r, d, rfl, hd, b, nr, h1⟩ q
  refine ⟨_, rfl, r, rfl, ⟨_, SqL.of h1⟩, fun L hL => lc_list (K := K) (a := r) (xs := row 13) (fun i H2 => H2 L = some (.lst (lt13 (10 ^ 60) i)) ∧ Same H' H2) ⟨upd_same, same_new hL⟩ (fun i H2 _ h => h.2.seq (SqL.of h1)) ?_ ?_⟩
  · rintro i x H2 hx ⟨h2, sm⟩
    have hi : i < 13 := by
      have := (List.getElem?_eq_some_iff.mp hx).1
      rw [row_len] at this
      exact this
    rw [row_get hi] at hx
    cases hx
    refine ⟨rfl, _, rfl, 10, 60, rfl, rfl, ⟨by decide, by decide, by decide⟩, _, _, rfl, rfl, _, rfl, ite2 (fun c => ?_) (fun c => ?_)⟩
    · have c' : aN i < 10 ^ 60 := of_decide_eq_true c
      refine ⟨_, rfl, _, h2, small1000 (Nat.le_trans (lt13_le _ i) (by omega)), ?_, same_mut hL sm⟩
      rw [upd_same, lt13_succ, if_pos c']
    · have c' : ¬ aN i < 10 ^ 60 := fun z => c (decide_eq_true z)
      refine ⟨?_, sm⟩
      rw [lt13_succ, if_neg c']
      exact h2
  · rintro H2 ⟨h2, sm⟩
    rw [row_len, lt13_60] at h2
    obtain ⟨st, hl, _⟩ := b.st
    exact q _ _ ⟨r, d, L, rfl, b.same sm, nr, sm _ _ h1, (ne_of_none hl hL).symm, h2⟩
theorem hR4 (B : Bi mg) (D : Defs P w K mg base CN) (hr : Room 4 (XR P w K mg base f c A outer s H0 E0').A) :
    Ho (XR P w K mg base f c A outer s H0 E0') (stR 4) (S4 H l) (S5 100 H l) := by
  refine ⟨_, (ps_set (i := 4) scRight.nd rfl (.inl rfl) (pe_op op_cat (pe_op op_cat (pv 3) (pe_lc (own := [("_law_many", 7)]) (g := gName 7) (tt := tYes) (by rfl) scRight.nd (pi_list (pv 3)) (blkOk_by (own := [("_law_many", 7)]) (N := nR) (sc := defScope sRight) (by decide +kernel)) (fun _ _ _ _ _ => pg_name (i := 7) scRight.nd rfl (Or.inl rfl)) (fun _ _ _ _ _ => pts_nil) (fun _ _ _ _ _ => pe_op op_add (pv 7) pe_int))) (pe_lc (own := [("_law_many", 7)]) (g := gName 7) (tt := tYes) (by rfl) scRight.nd (pi_list (pe_slice sl_list (pv 3) (po_some pe_int) po_none)) (blkOk_by (own := [("_law_many", 7)]) (N := nR) (sc := defScope sRight) (by decide +kernel)) (fun _ _ _ _ _ => pg_name (i := 7) scRight.nd rfl (Or.inl rfl)) (fun _ _ _ _ _ => pts_nil) (fun _ _ _ _ _ => pe_op op_sub (pv 7) pe_int)))), ?_⟩
  rintro D σ H' ⟨r, d, N, rfl, b, nr, h1, nN, hN⟩ q
  refine ⟨_, rfl, _, rfl, N, rfl, ⟨_, SqL.of hN⟩, fun L1 hL1 => lc_list (K := K) (a := N) (xs := row 9) (fun i H2 => H2 L1 = some (.lst (mapR (fun a => a + 1) i)) ∧ Same H' H2) ⟨upd_same, same_new hL1⟩ (fun i H2 _ h => h.2.seq (SqL.of hN)) ?_ ?_⟩
  · rintro i x H2 hx ⟨h2, sm⟩
    have hi : i < 9 := by
      have := (List.getElem?_eq_some_iff.mp hx).1
      rw [row_len] at this
      exact this
    rw [row_get hi] at hx
    cases hx
    refine ⟨rfl, _, rfl, _, _, rfl, rfl, _, h2, small1000 (by rw [mapR_len]; omega), ?_, same_mut hL1 sm⟩
    rw [upd_same, mapR_succ]
  · rintro H2 ⟨h2, sm⟩
    rw [row_len] at h2
    refine ⟨N, L1, _, _, rfl, rfl, sm _ _ hN, h2, (by rw [row_len, mapR_len]; decide), fun p1 hp1 => ?_⟩
    have sm2 := sm.trans (same_new (o := HO.lst (row 9 ++ mapR (fun a => a + 1) 9)) hp1)
    refine ⟨_, rfl, 1, rfl, N, _, rfl, SqL.of (sm2 _ _ hN), fun c1 hc1 => ?_⟩
    rw [cut_row]
    have n1 : p1 ≠ c1 := ne_of_none upd_same hc1
    have sm3 := sm2.trans (same_new (o := HO.lst (mapS (fun a => a) 8)) hc1)
    refine ⟨c1, rfl, ⟨_, SqL.of upd_same⟩, fun L2 hL2 => lc_list (K := K) (a := c1) (xs := mapS (fun a => a) 8) (fun i H3 => H3 L2 = some (.lst (mapS (fun a => a - 1) i)) ∧ Same _ H3) ⟨upd_same, same_new hL2⟩ (fun i H3 _ h => h.2.seq (SqL.of upd_same)) ?_ ?_⟩
    · rintro i x H3 hx ⟨h3, sm4⟩
      have hi : i < 8 := by
        have := (List.getElem?_eq_some_iff.mp hx).1
        rw [mapS_len] at this
        exact this
      rw [mapS_get hi] at hx
      cases hx
      refine ⟨rfl, _, rfl, _, _, rfl, rfl, _, h3, small1000 (by rw [mapS_len]; omega), ?_, same_mut hL2 sm4⟩
      rw [upd_same, mapS_succ]
    · rintro H3 ⟨h3, sm4⟩
      rw [mapS_len] at h3
      refine ⟨p1, L2, _, _, rfl, rfl, sm4 _ _ (by rw [upd_ne n1, upd_same]), h3, (by rw [List.length_append, row_len, mapR_len, mapS_len]; decide), fun p2 hp2 => ?_⟩
      have sm5 := (sm3.trans sm4).trans (same_new (o := HO.lst some1) hp2)
      obtain ⟨st, hl, _⟩ := b.st
      have np : p2 ≠ l := (ne_of_none ((sm3.trans sm4) _ _ hl) hp2).symm
      exact q _ _ ⟨r, d, N, p2, some1, rfl, b.same sm5, nr, sm5 _ _ h1, np, upd_same, by decide +kernel, some1_ok⟩
theorem hR5 (B : Bi mg) (D : Defs P w K mg base CN) (hr : Room 4 (XR P w K mg base f c A outer s H0 E0').A) :
    Ho (XR P w K mg base f c A outer s H0 E0') (stR 5) (S5 100 H l) (S5 102 H l) := by
  refine ⟨_, (ps_set (i := 4) scRight.nd rfl (.inl rfl) (pe_op op_cat (pv 4) (pe_lst (pa_cons (pe_op op_pow pe_int pe_int) (pa_cons (pe_op op_add pe_int (pe_op op_mul (pe_cl D.digit hr (by decide) (by rfl) pass0 (pa_cons (pv 0) (pa_cons (pe_op op_pow pe_int pe_int) pa_nil))) (pe_cl D.tens hr (by decide) (by rfl) pass0 (pa_cons (pe_cl D.digit hr (by decide) (by rfl) pass0 (pa_cons (pv 0) (pa_cons pe_int pa_nil))) pa_nil)))) pa_nil))))), ?_⟩
  rintro D σ H' ⟨r, d, N, p, xs, rfl, b, nr, h1, np, hp, hlen, hall⟩ q
  obtain ⟨st, hl, hst⟩ := b.st
  refine ⟨_, rfl, 10, 60, rfl, rfl, ⟨by decide, by decide, by decide⟩, _, rfl, 10, 9, rfl, rfl, ⟨by decide, by decide, by decide⟩, l, st, _, rfl, hl, hst, by decide, by decide, fun d1 st1 H1 hd1 hst1 hl1 bt1 => ?_⟩
  have hd1' : (d1 : Int) < 1000000000 := hd1
  refine ⟨_, rfl, l, st1, _, rfl, hl1, hst1, by decide, by decide, fun d2 st2 H2 hd2 hst2 hl2 bt2 => ?_⟩
  refine ⟨d2, rfl, by omega, d1, _, rfl, rfl, .inl ⟨by omega, by omega⟩, 1, _, rfl, rfl, (by show 2 ≤ sizeLine; decide), fun p1 hp1 => ?_⟩
  have bt := bt1.trans bt2
  have n1 : p ≠ p1 := ne_of_none (bt _ _ np hp) hp1
  refine ⟨p, p1, _, _, rfl, rfl, (by rw [upd_ne n1]; exact bt _ _ np hp), upd_same, Evl.sz_of (show xs.length + 2 ≤ 100000 by omega), fun p2 hp2 => ?_⟩
  have sm := (same_new (o := HO.lst [.int (10 ^ 60), .int (1 + (d1 : Int) * tN d2)]) hp1).trans (same_new (o := HO.lst (xs ++ [.int (10 ^ 60), .int (1 + (d1 : Int) * tN d2)])) hp2)
  have b2 : Bs H l _ := Bs.same ⟨⟨st2, hl2, hst2⟩, b.but.trans bt⟩ sm
  have np2 : p2 ≠ l := (ne_of_none (same_new hp1 _ _ hl2) hp2).symm
  refine q _ _ ⟨r, d, N, p2, _, rfl, b2, nr, sm _ _ (bt _ _ nr h1), np2, upd_same, ?_, ?_⟩
  · rw [List.length_append]
    exact Nat.add_le_add_right hlen 2
  · have z1 : inB (.int (10 ^ 60)) = true := by decide +kernel
    have z2 := drawn_ok (d1 := d1) (d2 := d2) hd1 hd2
    rw [List.all_append, hall]
    show (true && (inB (.int (10 ^ 60)) && (inB (.int (1 + (d1 : Int) * tN d2)) && true))) = true
    rw [z1, z2]
    rfl
theorem hR6 (B : Bi mg) (D : Defs P w K mg base CN) (hr : Room 4 (XR P w K mg base f c A outer s H0 E0').A) :
    Ho (XR P w K mg base f c A outer s H0 E0') (stR 6) (S5 102 H l) (S7 H l) := by
  refine ⟨_, (ps_for PassesOwn.never rfl (pi_list (pv 4)) (pg_name (i := 5) scRight.nd rfl (.inl rfl)) (pss_one (ps_if (pt_cmpR op_ne (pe_cl D.to hr (by decide) (by rfl) pass0 (pa_cons (pv 5) pa_nil)) (pe_cl D.fewest hr (by decide) (by rfl) pass0 (pa_cons (pv 1) (pa_cons (pv 5) pa_nil))) (nomark _)) (pss_one (ps_ret pe_bl)) pss_nil))), ?_⟩
  rintro D σ H' ⟨r, d, N, p, xs, rfl, b, nr, h1, np, hp, hlen, hall⟩ q
  refine ⟨_, rfl, p, rfl, ⟨_, SqL.of hp⟩, for_list (K := K) (a := p) (xs := xs) (fun i σ H2 => ∃ y, σ = [some (.ref l), some (.ref r), some (.int d), some (.ref N), some (.ref p), y, none, none] ∧ Same H' H2) ⟨none, rfl, Same.refl _⟩ (fun i σ H2 _ ⟨_, _, sm⟩ => sm.seq (SqL.of hp)) ?_ ?_⟩
  · rintro i x σ H2 hx ⟨y, rfl, sm⟩
    have hb := List.all_eq_true.mp hall x (List.mem_of_getElem? hx)
    cases x with
    | int z =>
      unfold inB at hb
      simp only [Bool.and_eq_true, decide_eq_true_eq] at hb
      refine ⟨_, rfl, z, rfl, hb.1, hb.2, _, rfl, _, rfl, r, z, rfl, sm.seq (SqL.of h1), fun H3 sm3 => ⟨rfl, _, rfl, iteNS rfl ⟨_, rfl, sm.trans sm3⟩⟩⟩
    | _ => cases hb
  · rintro σ H2 ⟨y, rfl, sm⟩
    exact q _ _ ⟨_, _, _, _, _, rfl, b.same sm⟩
theorem hR7 (B : Bi mg) (D : Defs P w K mg base CN) (hr : Room 4 (XR P w K mg base f c A outer s H0 E0').A) :
    Ho (XR P w K mg base f c A outer s H0 E0') (stR 7) (S7 H l) (S8 K H l) := by
  refine ⟨_, (ps_set (i := 6) scRight.nd rfl (.inr rfl) (pe_cl D.pick hr (by decide) (by rfl) pass0 (pa_cons (pv 0) (pa_cons (pe_lst (pa_cons (pe_un un_neg pe_int) (pa_cons pe_int (pa_cons (pe_op op_pow pe_int pe_int) (pa_cons pe_bl (pa_cons pe_bl (pa_cons pe_non (pa_cons pe_str (pa_cons (pe_tup (pa_cons pe_int pa_nil)) (pa_cons (pe_lst (pa_cons pe_int pa_nil)) (pa_cons pe_dnewK pa_nil))))))))))) pa_nil)))), ?_⟩
  rintro D σ H' ⟨a, b, c, d, e, rfl, bs⟩ q
  obtain ⟨st, hl, hst⟩ := bs.st
  refine ⟨_, rfl, 1, rfl, 10, 30, rfl, rfl, ⟨by decide, by decide, by decide⟩, (by show 1 ≤ sizeLine; decide), fun pt hpt => ⟨(by show 1 ≤ sizeLine; decide), fun pl hpl => fun pd hpd => ⟨(by show 10 ≤ sizeLine; decide), fun pq hpq => ?_⟩⟩⟩
  have s1 := same_new (o := HO.tup [.int 1]) hpt
  have s2 := same_new (o := HO.lst [.int 1]) hpl
  have s3 := same_new (o := HO.dK []) hpd
  have s4 := same_new (o := HO.lst [.int (-1), .int 13, .int (10 ^ 30), .bl true, .bl false, .non, .str "3", .ref pt, .ref pl, .ref pd]) hpq
  have bs2 := bs.same (((s1.trans s2).trans s3).trans s4)
  have hl2 := (((s1.trans s2).trans s3).trans s4) _ _ hl
  have nq : pq ≠ l := (ne_of_none (((s1.trans s2).trans s3) _ _ hl) hpq).symm
  have n1 : pt ≠ l := (ne_of_none hl hpt).symm
  have n2 : pl ≠ l := (ne_of_none (s1 _ _ hl) hpl).symm
  have n3 : pd ≠ l := (ne_of_none ((s1.trans s2) _ _ hl) hpd).symm
  refine ⟨l, st, pq, _, rfl, hl2, hst, upd_same, nq, (by show 0 < 10; decide), (by show 10 ≤ 1000; decide), fun j v st' H2 hj hst' hl' bt => ?_⟩
  refine q _ _ ⟨a, b, c, d, e, v, rfl, ⟨⟨st', hl', hst'⟩, bs2.but.trans bt⟩, ?_⟩
  exact wh_pick (bt _ _ n1 (((s2.trans s3).trans s4) _ _ upd_same)) (bt _ _ n2 ((s3.trans s4) _ _ upd_same)) (bt _ _ n3 (s4 _ _ upd_same)) hj
theorem hR8 (B : Bi mg) (D : Defs P w K mg base CN) (hr : Room 4 (XR P w K mg base f c A outer s H0 E0').A) (T : No K mg CN CM) (R : RefF K mg g) (TB : LamX.TabB base mg c Pt)
    (rlk : K.lookup g = some ⟨roc, rod, .func (PySem.W.fnOf "_law_is_refused" "_law_is_refused" (defArgs sRefused) (defBody sRefused) (defScope sRefused) rdV rkV rdoc rpm ran rcdv rct), rosl⟩) (rcd : PySem.W.codeIn K rcdv "_law_is_refused" = true)
    (rb : Binds K (PySem.W.fnOf "_law_is_refused" "_law_is_refused" (defArgs sRefused) (defBody sRefused) (defScope sRefused) rdV rkV rdoc rpm ran rcdv rct) ["_law_ask"] []) (hT : LamX.Tabs (tabs Pt) H) {st0 : List V} (hl : H l = some (.lst st0)) :
    Ho (XR P w K mg base f c A outer s H0 E0') (stR 8) (S8 K H l) (S9 Pt H l) := by
  refine ⟨_, (ps_if (PW.pt (pw_or (pt_not (pt_val (LamX.pe_lamcall (k := 2) (T := tabs Pt) (TT := TRef K CN) (by rfl) R.gg R.k rlk rcd rb scRefused rfl (.inl rfl) (refused_gives T) TB rfl (List.mem_singleton.mpr rfl) (fun p hp _ => by rw [List.mem_singleton.mp hp]; rfl) hr (LamX.lamS_by (sc := defScope sRight) (by decide +kernel)) rfl (fun _ _ _ _ _ => rfl) (fun A outer s H E f c' hr' => pe_cl D.afterX hr' (by decide) (by rfl) (passes_call (takes_of rfl rfl rfl rfl) (fun _ _ _ _ h => h)) (pa_cons (pv 6) pa_nil))))) (pw_or1 (pt_not (pt_val (LamD.pe_lamD (b := "_law_by") (k := 2) (T := tabs Pt) (TT := TRef K CN) (by rfl) R.gg R.k rlk rcd rb scRefused rfl (.inl rfl) (refused_gives T) TB rfl (List.mem_singleton.mpr rfl) (fun p hp _ => by rw [List.mem_singleton.mp hp]; rfl) hr (LamD.nm_by (N := nR) (sc := defScope sRight) (by decide +kernel)) rfl (fun _ _ _ _ _ _ => ⟨_, rfl, fun _ => rfl⟩) rfl (fun A outer s H E f c' hr' => pe_cl D.bindsX hr' (by decide) (by rfl) (passes_call (takes_of rfl rfl rfl rfl) (fun _ _ _ _ h => h)) (pa_cons (pv 6) pa_nil)))))))) (pss_one (ps_ret pe_bl)) pss_nil), ?_⟩
  rintro D σ H' ⟨a, b, c, d, e, v, rfl, bs, wh⟩ q
  have tb := tabs_but hT hl bs.but
  refine ⟨tb, fun H1 ex1 tb1 => ⟨v, rfl, v, rfl, wh.ext ex1, T.e, _, rfl, iteF ?_⟩⟩
  refine ⟨tb1, fun H2 ex2 tb2 => ⟨v, rfl, v, rfl, (wh.ext ex1).ext ex2, T.e, _, rfl, iteF ?_⟩⟩
  obtain ⟨st, hl', hst⟩ := bs.st
  refine q _ _ ⟨a, b, c, d, e, some v, rfl, ⟨st, ex2 _ _ (ex1 _ _ hl' (fun _ z => nomatch z)) (fun _ z => nomatch z), hst⟩, (bs.but.n.trans (.ext ex1)).trans (.ext ex2), tb2⟩
theorem hR9 (B : Bi mg) (D : Defs P w K mg base CN) (hr : Room 4 (XR P w K mg base f c A outer s H0 E0').A) :
    Ho (XR P w K mg base f c A outer s H0 E0') (stR 9) (S9 Pt H l) (S10 K Pt H l) := by
  refine ⟨_, (ps_set (i := 6) scRight.nd rfl (.inr rfl) (pe_cl D.pick hr (by decide) (by rfl) pass0 (pa_cons (pv 0) (pa_cons (pe_lst (pa_cons pe_int (pa_cons (pe_un un_neg pe_int) (pa_cons (pe_op op_add (pe_op op_pow pe_int pe_int) pe_int) (pa_cons (pe_op op_mulW (pe_op op_pow pe_int pe_int) (pe_op op_pow pe_int pe_int)) (pa_cons pe_bl (pa_cons pe_non (pa_cons pe_str (pa_cons (pe_tup (pa_cons pe_int pa_nil)) (pa_cons (pe_lst (pa_cons pe_int pa_nil)) (pa_cons pe_dnewK pa_nil))))))))))) pa_nil)))), ?_⟩
  rintro D σ H' ⟨a, b, c, d, e, v0, rfl, ⟨st, hl, hst⟩, bn, tb⟩ q
  refine ⟨_, rfl, 1, rfl, 10, 60, rfl, rfl, ⟨by decide, by decide, by decide⟩, _, _, rfl, rfl, 10, 60, rfl, rfl, ⟨by decide, by decide, by decide⟩, 10, 30, rfl, rfl, ⟨by decide, by decide, by decide⟩, _, _, rfl, rfl, wide_mul (a := 200) (b := 100) (by decide +kernel) (by decide +kernel) (by decide) (by decide) (by decide), (by show 1 ≤ sizeLine; decide), fun pt hpt => ⟨(by show 1 ≤ sizeLine; decide), fun pl hpl => fun pd hpd => ⟨(by show 10 ≤ sizeLine; decide), fun pq hpq => ?_⟩⟩⟩
  have s1 := same_new (o := HO.tup [.int 1]) hpt
  have s2 := same_new (o := HO.lst [.int 1]) hpl
  have s3 := same_new (o := HO.dK []) hpd
  have s4 := same_new (o := HO.lst [.int 0, .int (-1), .int (10 ^ 60 + 1), .int (10 ^ 60 * 10 ^ 30), .bl true, .non, .str "3", .ref pt, .ref pl, .ref pd]) hpq
  have sa := ((s1.trans s2).trans s3).trans s4
  have hl2 := sa _ _ hl
  have nq : pq ≠ l := (ne_of_none (((s1.trans s2).trans s3) _ _ hl) hpq).symm
  have n1 : pt ≠ l := (ne_of_none hl hpt).symm
  have n2 : pl ≠ l := (ne_of_none (s1 _ _ hl) hpl).symm
  have n3 : pd ≠ l := (ne_of_none ((s1.trans s2) _ _ hl) hpd).symm
  refine ⟨l, st, pq, _, rfl, hl2, hst, upd_same, nq, (by show 0 < 10; decide), (by show 10 ≤ 1000; decide), fun j v st' H2 hj hst' hl' bt => ?_⟩
  refine q _ _ ⟨a, b, c, d, e, v, rfl, (bn.trans (Same.but l sa).n).trans bt.n, tabs_but tb hl ((Same.but l sa).trans bt), ?_⟩
  exact wh_pick2 (bt _ _ n1 (((s2.trans s3).trans s4) _ _ upd_same)) (bt _ _ n2 ((s3.trans s4) _ _ upd_same)) (bt _ _ n3 (s4 _ _ upd_same)) hj
theorem hR10 (B : Bi mg) (D : Defs P w K mg base CN) (hr : Room 4 (XR P w K mg base f c A outer s H0 E0').A) (T : No K mg CN CM) (R : RefF K mg g) (TB : LamX.TabB base mg c Pt)
    (rlk : K.lookup g = some ⟨roc, rod, .func (PySem.W.fnOf "_law_is_refused" "_law_is_refused" (defArgs sRefused) (defBody sRefused) (defScope sRefused) rdV rkV rdoc rpm ran rcdv rct), rosl⟩) (rcd : PySem.W.codeIn K rcdv "_law_is_refused" = true)
    (rb : Binds K (PySem.W.fnOf "_law_is_refused" "_law_is_refused" (defArgs sRefused) (defBody sRefused) (defScope sRefused) rdV rkV rdoc rpm ran rcdv rct) ["_law_ask"] []) :
    HoR (XR P w K mg base f c A outer s H0 E0') [stR 10] (S10 K Pt H l) (fun v H' => v = .bl true ∧ LamX.Tabs (tabs Pt) H' ∧ ButN l H H') := by
  refine ⟨_, pss_one (ps_ret (LamX.pe_lamcall (k := 2) (T := tabs Pt) (TT := TRef K CN) (by rfl) R.gg R.k rlk rcd rb scRefused rfl (.inl rfl) (refused_gives T) TB rfl (List.mem_singleton.mpr rfl) (fun p hp _ => by rw [List.mem_singleton.mp hp]; rfl) hr (LamX.lamS_by (sc := defScope sRight) (by decide +kernel)) rfl (fun _ _ _ _ _ => rfl) (fun A outer s H E f c' hr' => pe_cl D.toX hr' (by decide) (by rfl) (passes_call (takes_of rfl rfl rfl rfl) (fun _ _ _ _ h => h)) (pa_cons (pv 6) pa_nil)))), ?_⟩
  rintro D σ H' ⟨a, b, c, d, e, v, rfl, bn, tb, wh⟩ q
  exact ⟨tb, fun H1 ex1 tb1 => ⟨v, rfl, v, rfl, wh.ext ex1, T.e, q _ _ ⟨rfl, tb1, bn.trans (.ext ex1)⟩⟩⟩
theorem ok_right {oc : Value} {od an : Option Addr} {dV kV doc pm ct : Value} {osl : Array (Option Value)}
    (lk : K.lookup f = some ⟨oc, od, .func (PySem.W.fnOf "_law_right" "_law_right" (defArgs sRight) (defBody sRight) (defScope sRight) dV kV doc pm an (.ref c) ct), osl⟩) (hcd : PySem.W.codeIn K (.ref c) "_law_right" = true)
    (B : Bi mg) (T : No K mg CN CM) (D : Defs P w K mg base CN) (R : RefF K mg g) (TB : LamX.TabB base mg c Pt) :
    FnOk P w K mg base CX0 5 f (PySem.W.fnOf "_law_right" "_law_right" (defArgs sRight) (defBody sRight) (defScope sRight) dV kV doc pm an (.ref c) ct) ["_law_state"] (spRight Pt) := by
  obtain ⟨roc, rod, rdV, rkV, rdoc, rpm, ran, rcdv, rct, rosl, rlk, rcd, rb⟩ := R.ex
  refine fn_of lk hcd scRight (fun vs H Q E h => ?_) (fun A outer s H vs Q E hr h => ?_)
  · obtain ⟨l, st, rfl, _⟩ := h
    rfl
  · obtain ⟨l, st, rfl, hl, hst, hT, q⟩ := h
    have all : HoR (XR P w K mg base f c A outer s H E) (defBody sRight) (S0 H l) (fun v H' => v = .bl true ∧ LamX.Tabs (tabs Pt) H' ∧ ButN l H H') :=
      HoR.cons (hR0 B D hr) (HoR.cons (hR1 B D hr) (HoR.cons (hR2 B D hr) (HoR.cons (hR3 B D hr) (HoR.cons (hR4 B D hr) (HoR.cons (hR5 B D hr) (HoR.cons (hR6 B D hr) (HoR.cons (hR7 B D hr) (HoR.cons (hR8 B D hr T R TB rlk rcd rb hT hl) (HoR.cons (hR9 B D hr) (hR10 B D hr T R TB rlk rcd rb))))))))))
    obtain ⟨t, ht, hq⟩ := all
    refine ⟨t, PSs.nox ht, hq _ _ _ ⟨rfl, ⟨⟨st, hl, hst⟩, But.refl l H⟩, rfl⟩ fun v H' hv => ?_⟩
    obtain ⟨rfl, h2, h3⟩ := hv
    exact q H' h2 h3
end
end K65
set_option Elab.async false
set_option linter.all false
set_option maxRecDepth 100000
set_option maxHeartbeats 8000000
namespace K65
open PySem PySem.Spec PyProof.Rows L2
/-- xs + ys, lists that are read -/
def rCatS (K : PySem.W.Frag) : R2 := fun x y H Q => ∃ l b xs zs, x = .ref l ∧ y = .ref b ∧ SqL K H l xs ∧ SqL K H b zs ∧ xs.length + zs.length ≤ sizeLine ∧ ∀ p, H p = none → Q (.ref p) (upd H p (.lst (xs ++ zs)))
theorem op_catS {X : Cx} : OpR X (binaryOp .Add) (rCatS X.K) := by
  intro pins s σ H x y v u Q I rx ry h
  obtain ⟨l, b, xs, zs, rfl, rfl, hl, hb, hz, q⟩ := h
  cases rx
  cases ry
  obtain ⟨its, r, ⟨⟨c1, d1, t1, sl1⟩, n1, e1, k1, m1, f1⟩, z1⟩ := I.list hl
  obtain ⟨its2, r2, ⟨⟨c2, d2, t2, sl2⟩, n2, e2, k2, m2, f2⟩, z2⟩ := I.list hb
  dsimp only at k1 m1 f1 k2 m2 f2
  subst k1 m1 f1 k2 m2 f2
  have hl1 := r.length
  have hl2 := r2.length
  refine concat_meets ⟨_, e1, rfl⟩ ⟨_, e2, rfl⟩ noFill_list_add seq_list_add PySem.F.slot_list_add PySem.F.entry_list_add (PySem.F.args_list_add_2 _ _) (list_addW l b its.toArray its2.toArray n1 n2 none none sl1 sl2 (by rw [List.size_toArray, List.size_toArray, ← hl1, ← hl2]; exact hz)) ⟨e1, e2, ?_⟩
  have ea : its.toArray ++ its2.toArray = (its ++ its2).toArray := by simp
  rw [ea]
  exact ⟨.ref _, _, I.lnew (t' := s.toks) (r.append r2) (by rw [List.length_append]; exact hz), rfl, q _ I.fresh⟩
abbrev nL : List Str := ["_law_script", "_law_cell", "_law_k", "_law_n"]
theorem scLaw : FnScope nL ["_law_script"] (defScope sLaw) := ⟨rfl, rfl, rfl, by decide +kernel, rfl, by decide +kernel, by decide +kernel⟩
def stL (i : Nat) : Stmt := (defBody sLaw).getD i (.Pass ⟨0, 0, 0, 0⟩)
abbrev XL (P : Program) (w : World) (K : PySem.W.Frag) (mg : Str → Option Value) (base : Heap) (f : Addr) (cdv : Value) (A : Around) (outer : List Env) (s : Shared) (H0 : Hp) (E0' : XK) : Cx := (cxOf CX0 P w K mg base nL "law" (defScope sLaw) f cdv A outer s H0 E0').nox
def spLaw (K : PySem.W.Frag) (Pt : Addr) : Sp := fun vs H Q _ => ∃ (a : Addr) (ns : List Int), vs = [.ref a] ∧ SqL K H a (ns.map V.int) ∧ ns.length ≤ 63 ∧ H Pt = some (.tbl #[]) ∧ ∀ H', Q (.bl true) H'
def bl13 (n : Nat) : List V := (List.range n).map fun i => V.int (bN i)
theorem bl13_succ (n : Nat) : bl13 (n + 1) = bl13 n ++ [.int (bN n)] := by
  unfold bl13
  rw [List.range_succ, List.map_append]
  rfl
theorem bl13_len (n : Nat) : (bl13 n).length = n := by
  unfold bl13
  rw [List.length_map, List.length_range]
theorem dpAll_ints {K : PySem.W.Frag} {H : Hp} : ∀ ns : List Int, DpAll K H (ns.map V.int) (ns.map PyData.int)
  | [] => .nil
  | n :: r => .cons (.int n) (dpAll_ints r)
theorem shaped_ints : ∀ ns : List Int, ns.length ≤ 1000 → SeqAt.shaped (.list (ns.map PyData.int)) = true → True := fun _ _ _ => True.intro
theorem cutV8 {α : Type} (xs : List V) : (cutV xs none (some 8)) = xs.take 8 := by
  unfold cutV
  rw [show HT.sIx xs.length xs.length (some 8) = min 8 xs.length from HT.sIx_nat xs.length xs.length 8, HT.sIx_none]
  simp
section
variable {P : Program} {w : World} {K : PySem.W.Frag} {mg : Str → Option Value} {base : Heap} {f c Pt g CN CM : Addr} {A : Around} {outer : List Env} {s : Shared} {H0 : Hp} {E0' : XK} {cdv : Value}
def L0 (K : PySem.W.Frag) (a : Addr) (ns : List Int) (Pt : Addr) (σ : L2.St) (H' : Hp) : Prop := σ = [some (.ref a), none, none, none] ∧ SqL K H' a (ns.map V.int) ∧ ns.length ≤ 63 ∧ LamX.Tabs (tabs Pt) H'
def L1 (σ : L2.St) (H' : Hp) : Prop := ∃ a b, σ = [a, b, none, none]
theorem hL0 (R : Cl P w K mg base CX0 5 "_law_right" ["_law_state"] (spRight Pt)) (hr : Room 5 (XL P w K mg base f cdv A outer s H0 E0').A) {a : Addr} {ns : List Int} :
    Ho (XL P w K mg base f cdv A outer s H0 E0') (stL 0) (L0 K a ns Pt) L1 := by
  refine ⟨_, ps_for PassesOwn.never rfl (pi_list (pe_slice sl_list (pe_op op_catS (pv 0) (pe_lst (pa_cons pe_int pa_nil))) po_none (po_some pe_int))) (pg_name (i := 1) scLaw.nd rfl (.inl rfl))
    (pss_one (ps_if (pt_not (pt_val (pe_cl R hr (by decide) (by rfl) pass0 (pa_cons (pe_lst (pa_cons (pv 1) pa_nil)) pa_nil)))) (pss_one (ps_ret pe_bl)) pss_nil)), ?_⟩
  rintro D σ H' ⟨rfl, hS, hlen, tb⟩ q
  refine ⟨_, rfl, (by show 1 ≤ sizeLine; decide), fun p1 hp1 => ?_⟩
  have s1 := same_new (o := HO.lst [.int 0]) hp1
  refine ⟨a, p1, _, _, rfl, rfl, s1.seq hS, SqL.of upd_same, (by rw [List.length_map]; exact Nat.le_of_lt (small1000 (show ns.length + 1 ≤ 1000 by omega))), fun p2 hp2 => ?_⟩
  have s2 := s1.trans (same_new (o := HO.lst (ns.map V.int ++ [.int 0])) hp2)
  refine ⟨8, rfl, p2, _, rfl, SqL.of upd_same, fun p3 hp3 => ?_⟩
  have s3 := s2.trans (same_new (o := HO.lst (cutV (ns.map V.int ++ [.int 0]) none (some 8))) hp3)
  have isI : ∀ v ∈ cutV (ns.map V.int ++ [.int 0]) none (some 8), ∃ z, v = V.int z := by
    intro v hv
    rw [cutV8 (α := Nat)] at hv
    rcases List.mem_append.mp (List.mem_of_mem_take hv) with h | h
    · obtain ⟨z, _, e⟩ := List.mem_map.mp h
      exact ⟨z, e.symm⟩
    · exact ⟨0, List.mem_singleton.mp h⟩
  refine ⟨p3, rfl, ⟨_, SqL.of upd_same⟩, for_list (K := K) (a := p3) (xs := cutV (ns.map V.int ++ [.int 0]) none (some 8)) (fun i σ H2 => ∃ y, σ = [some (.ref a), y, none, none] ∧ H2 p3 = some (.lst (cutV (ns.map V.int ++ [.int 0]) none (some 8))) ∧ LamX.Tabs (tabs Pt) H2) ⟨none, rfl, upd_same, tb.ext s3⟩ (fun i σ H2 _ ⟨_, _, h, _⟩ => SqL.of h) ?_ ?_⟩
  · rintro i x σ H2 hx ⟨y, rfl, h3, tb2⟩
    obtain ⟨z, rfl⟩ := isI x (List.mem_of_getElem? hx)
    refine ⟨_, rfl, (by show 1 ≤ sizeLine; decide), fun l hl => ?_⟩
    have sl := same_new (o := HO.lst [.int z]) hl
    refine ⟨l, _, rfl, upd_same, .inl ⟨z, rfl⟩, tb2.ext sl, fun H3 tb3 bn => ⟨_, rfl, iteF ?_⟩⟩
    exact ⟨_, rfl, bn _ _ (ne_of_none h3 hl) (fun _ z => nomatch z) (sl _ _ h3), tb3⟩
  · rintro σ H2 ⟨y, rfl, _, _⟩
    exact q _ _ ⟨_, _, rfl⟩
theorem hL1 (B : Bi mg) (D : Defs P w K mg base CN) (hr : Room 5 (XL P w K mg base f cdv A outer s H0 E0').A) :
    Ho (XL P w K mg base f cdv A outer s H0 E0') (stL 1) L1 L1 := by
  refine ⟨_, ps_if (pt_cmpR (op_neD hr.units) (pe_lc (own := [("_law_k", 2)]) (g := gName 2) (tt := tYes) (by rfl) scLaw.nd (pi_range1 rfl B.range (pa_cons pe_int pa_nil)) (blkOk_by (own := [("_law_k", 2)]) (N := nL) (sc := defScope sLaw) (by decide +kernel)) (fun _ _ _ _ _ => pg_name (i := 2) scLaw.nd rfl (Or.inl rfl)) (fun _ _ _ _ _ => pts_nil) (fun _ _ _ _ _ => pe_cl D.after hr (by decide) (by rfl) pass0 (pa_cons (pv 2) pa_nil)))
    (pe_lst (pa_cons pe_int (pa_cons pe_int (pa_cons pe_int (pa_cons pe_int (pa_cons pe_int pa_nil)))))) (nomark _)) (pss_one (ps_ret pe_bl)) pss_nil, ?_⟩
  rintro D0 σ H' ⟨a, b, rfl⟩ q
  refine ⟨5, rfl, by decide, by decide, fun L hL => lc_range (lo := 0) (n := 5) (fun i H2 => H2 L = some (.lst (row i))) upd_same ?_ ?_⟩
  · rintro i H2 hi h2
    refine ⟨rfl, _, rfl, i, (by show ([V.int (0 + (i : Int))] : List V) = _; rw [Int.zero_add]), by omega, _, h2, small1000 (by rw [row_len]; omega), ?_⟩
    rw [upd_same, row_succ]
  · rintro H2 h2
    refine ⟨(by show 5 ≤ sizeLine; decide), fun p hp => ?_⟩
    have n1 : L ≠ p := ne_of_none h2 hp
    have e5 : row 5 = ([1, 2, 6, 42, 1806] : List Int).map V.int := by decide +kernel
    rw [e5] at h2
    refine ⟨_, _, .lst (SqL.of (by rw [upd_ne n1]; exact h2)) (dpAll_ints [1, 2, 6, 42, 1806]), .lst (SqL.of upd_same) (dpAll_ints [1, 2, 6, 42, 1806]), by decide +kernel, by decide +kernel, _, rfl, ?_⟩
    rw [show PyData.eqv (.list (([1, 2, 6, 42, 1806] : List Int).map PyData.int)) (.list (([1, 2, 6, 42, 1806] : List Int).map PyData.int)) = true by decide +kernel]
    exact iteF (q _ _ ⟨_, _, rfl⟩)
theorem hL2 (B : Bi mg) (D : Defs P w K mg base CN) (hr : Room 5 (XL P w K mg base f cdv A outer s H0 E0').A) :
    Ho (XL P w K mg base f cdv A outer s H0 E0') (stL 2) L1 L1 := by
  refine ⟨_, ps_if (pt_cmpR (op_neD hr.units) (pe_lc (own := [("_law_k", 2)]) (g := gName 2) (tt := tYes) (by rfl) scLaw.nd (pi_range1 rfl B.range (pa_cons pe_int pa_nil)) (blkOk_by (own := [("_law_k", 2)]) (N := nL) (sc := defScope sLaw) (by decide +kernel)) (fun _ _ _ _ _ => pg_name (i := 2) scLaw.nd rfl (Or.inl rfl)) (fun _ _ _ _ _ => pts_nil) (fun _ _ _ _ _ => pe_cl D.binds hr (by decide) (by rfl) pass0 (pa_cons (pv 2) pa_nil)))
    (pe_lc (own := [("_law_k", 2)]) (g := gName 2) (tt := tYes) (by rfl) scLaw.nd (pi_range1 rfl B.range (pa_cons pe_int pa_nil)) (blkOk_by (own := [("_law_k", 2)]) (N := nL) (sc := defScope sLaw) (by decide +kernel)) (fun _ _ _ _ _ => pg_name (i := 2) scLaw.nd rfl (Or.inl rfl)) (fun _ _ _ _ _ => pts_nil) (fun _ _ _ _ _ => pe_cl D.doubled hr (by decide) (by rfl) pass0 (pa_cons (pv 2) pa_nil))) (nomark _)) (pss_one (ps_ret pe_bl)) pss_nil, ?_⟩
  rintro D0 σ H' ⟨a, b, rfl⟩ q
  refine ⟨13, rfl, by decide, by decide, fun L hL => lc_range (lo := 0) (n := 13) (fun i H2 => H2 L = some (.lst (bl13 i))) upd_same ?_ ?_⟩
  · rintro i H2 hi h2
    refine ⟨rfl, _, rfl, i, (by show ([V.int (0 + (i : Int))] : List V) = _; rw [Int.zero_add]), by omega, _, h2, small1000 (by rw [bl13_len]; omega), ?_⟩
    rw [upd_same, bl13_succ]
  · rintro H2 h2
    refine ⟨13, rfl, by decide, by decide, fun M hM => lc_range (lo := 0) (n := 13) (fun i H3 => H3 M = some (.lst (bl13 i)) ∧ H3 L = some (.lst (bl13 13))) ⟨upd_same, by rw [upd_ne (ne_of_none h2 hM)]; exact h2⟩ ?_ ?_⟩
    · rintro i H3 hi ⟨h3, h4⟩
      refine ⟨rfl, _, rfl, i, (by show ([V.int (0 + (i : Int))] : List V) = _; rw [Int.zero_add]), by omega, _, h3, small1000 (by rw [bl13_len]; omega), ?_, ?_⟩
      · rw [upd_same, bl13_succ]
      · rw [upd_ne (ne_of_none h2 hM)]
        exact h4
    · rintro H3 ⟨h3, h4⟩
      have e : bl13 13 = ((List.range 13).map bN).map V.int := by decide +kernel
      rw [e] at h3 h4
      refine ⟨_, _, .lst (SqL.of h4) (dpAll_ints _), .lst (SqL.of h3) (dpAll_ints _), by decide +kernel, by decide +kernel, _, rfl, ?_⟩
      rw [show PyData.eqv (.list (((List.range 13).map bN).map PyData.int)) (.list (((List.range 13).map bN).map PyData.int)) = true by decide +kernel]
      exact iteF (q _ _ ⟨_, _, rfl⟩)
def nine : List Int := [1, 2, 3, 6, 7, 42, 43, 1806, 1807]
theorem fw_nine : nine.map (fun z => ((fw z : Nat) : Int)) = [0, 1, 2, 2, 3, 3, 4, 4, 5] := by decide +kernel
theorem nine_ok : nine.all (fun z => decide (1 ≤ z) && decide (z ≤ 10 ^ 60)) = true := by decide +kernel
def fwL (i : Nat) : List V := (nine.take i).map fun z => V.int (fw z)
theorem hL3 (B : Bi mg) (D : Defs P w K mg base CN) (hr : Room 5 (XL P w K mg base f cdv A outer s H0 E0').A) :
    HoR (XL P w K mg base f cdv A outer s H0 E0') [stL 3] L1 (fun v _ => v = .bl true) := by
  refine ⟨_, pss_one (ps_ret (pe_cmpR (op_eqD hr.units) (pe_lc (own := [("_law_n", 3)]) (g := gName 3) (tt := tYes) (by rfl) scLaw.nd (pi_list (pe_lst (pa_cons pe_int (pa_cons pe_int (pa_cons pe_int (pa_cons pe_int (pa_cons pe_int (pa_cons pe_int (pa_cons pe_int (pa_cons pe_int (pa_cons pe_int pa_nil))))))))))) (blkOk_by (own := [("_law_n", 3)]) (N := nL) (sc := defScope sLaw) (by decide +kernel)) (fun _ _ _ _ _ => pg_name (i := 3) scLaw.nd rfl (Or.inl rfl)) (fun _ _ _ _ _ => pts_nil) (fun _ _ _ _ _ => pe_cl D.to hr (by decide) (by rfl) pass0 (pa_cons (pv 3) pa_nil)))
    (pe_lst (pa_cons pe_int (pa_cons pe_int (pa_cons pe_int (pa_cons pe_int (pa_cons pe_int (pa_cons pe_int (pa_cons pe_int (pa_cons pe_int (pa_cons pe_int pa_nil)))))))))) (nomark _))), ?_⟩
  rintro D0 σ H' ⟨a, b, rfl⟩ q
  refine ⟨(by show 9 ≤ sizeLine; decide), fun p hp => ?_⟩
  refine ⟨p, rfl, ⟨_, SqL.of upd_same⟩, fun L hL => lc_list (K := K) (a := p) (xs := nine.map V.int) (fun i H2 => H2 L = some (.lst (fwL i)) ∧ H2 p = some (.lst (nine.map V.int))) ⟨upd_same, by rw [upd_ne (ne_of_none upd_same hL)]; exact upd_same⟩ (fun i H2 _ h => SqL.of h.2) ?_ ?_⟩
  · rintro i x H2 hx ⟨h2, h3⟩
    rw [List.getElem?_map] at hx
    cases e : nine[i]? with
    | none =>
      rw [e] at hx
      cases hx
    | some z =>
      rw [e] at hx
      cases hx
      have hz := List.all_eq_true.mp nine_ok z (List.mem_of_getElem? e)
      simp only [Bool.and_eq_true, decide_eq_true_eq] at hz
      have np : p ≠ L := ne_of_none (show upd H' p _ p = some _ from upd_same) hL
      have hi := (List.getElem?_eq_some_iff.mp e).1
      refine ⟨rfl, _, rfl, z, rfl, hz.1, hz.2, _, h2, small1000 (by unfold fwL; rw [List.length_map, List.length_take]; exact Nat.le_trans (Nat.min_le_right _ _) (by decide)), ?_, ?_⟩
      · rw [upd_same]
        unfold fwL
        rw [List.take_add_one, e, List.map_append]
        rfl
      · rw [upd_ne np]
        exact h3
  · rintro H2 ⟨h2, h3⟩
    refine ⟨(by show 9 ≤ sizeLine; decide), fun p2 hp2 => ?_⟩
    have n1 : L ≠ p2 := ne_of_none h2 hp2
    have e9 : fwL (nine.map V.int).length = ([0, 1, 2, 2, 3, 3, 4, 4, 5] : List Int).map V.int := by decide +kernel
    rw [e9] at h2
    refine ⟨_, _, .lst (SqL.of (by rw [upd_ne n1]; exact h2)) (dpAll_ints [0, 1, 2, 2, 3, 3, 4, 4, 5]), .lst (SqL.of upd_same) (dpAll_ints [0, 1, 2, 2, 3, 3, 4, 4, 5]), by decide +kernel, by decide +kernel, ?_⟩
    rw [show PyData.eqv (.list (([0, 1, 2, 2, 3, 3, 4, 4, 5] : List Int).map PyData.int)) (.list (([0, 1, 2, 2, 3, 3, 4, 4, 5] : List Int).map PyData.int)) = true by decide +kernel]
    exact q _ _ rfl
theorem ok_law {fd : FuncData} (F : Fun K "law" "law" sLaw f fd) (B : Bi mg) (D : Defs P w K mg base CN) (R : Cl P w K mg base CX0 5 "_law_right" ["_law_state"] (spRight Pt)) :
    FnOk P w K mg base CX0 6 f fd ["_law_script"] (spLaw K Pt) := by
  refine F.ok scLaw (fun vs H Q E h => ?_) (fun cdv A outer s H vs Q E hr h => ?_)
  · obtain ⟨a, ns, rfl, _⟩ := h
    rfl
  · obtain ⟨a, ns, rfl, hS, hlen, hT, q⟩ := h
    have all : HoR (XL P w K mg base f cdv A outer s H E) (defBody sLaw) (L0 K a ns Pt) (fun v _ => v = .bl true) :=
      HoR.cons (hL0 R hr) (HoR.cons (hL1 B D hr) (HoR.cons (hL2 B D hr) (hL3 B D hr)))
    obtain ⟨t, ht, hq⟩ := all
    refine ⟨t, ht, hq _ _ _ ⟨rfl, hS, hlen, fun p hp => ?_⟩ fun v H' hv => ?_⟩
    · rw [List.mem_singleton.mp hp]
      exact LamX.TabS.nil hT
    · have hv : v = .bl true := hv
      rw [hv]
      exact q H'
end
end K65
set_option Elab.async false
set_option linter.all false
set_option maxRecDepth 100000
set_option maxHeartbeats 8000000
namespace K65
open PySem PySem.Spec PyProof.Rows L2
/-- a def of the top -/
structure FnFact (K : PySem.W.Frag) (x : Str) (st : Stmt) : Prop where
  ex : ∃ f fd, PySem.W.nsIn K mainGlobals x = some (some (.ref f)) ∧ Fun K x x st f fd
theorem FnFact.of {K : PySem.W.Frag} {x : Str} {st : Stmt} {f : Addr} {oc : Value} {od an : Option Addr} {sl : Array (Option Value)} {kV dc pm cd ct : Value} (a : PySem.W.nsIn K mainGlobals x = some (some (.ref f)))
    (l : K.lookup f = some ⟨oc, od, .func (PySem.W.fnOf x x (defArgs st) (defBody st) (defScope st) .none kV dc pm an cd ct), sl⟩) (c : PySem.W.codeIn K cd x = true) (k : PySem.W.keepIn K (.ref f) = true) : FnFact K x st :=
  ⟨f, _, a, fun_mk l c k⟩
theorem Cl.of {P : Program} {w : World} {K : PySem.W.Frag} {mg : Str → Option Value} {base : Heap} {CX : CXT} {k : Nat} {x : Str} {st : Stmt} {f : Addr} {fd : FuncData} {ps : List Str} {sp : Sp} {h : Heap} (X : K.In h) (G : h.Ns mainGlobals mg) (a : PySem.W.nsIn K mainGlobals x = some (some (.ref f)))
    (F : Fun K x x st f fd) (b : Binds K fd ps []) (o : FnOk P w K mg base CX k f fd ps sp) : Cl P w K mg base CX k x ps sp := ⟨f, fd, o, PySem.W.mg_of X G a, F.kp, b⟩
theorem law_at {l : PySem.W.OpenLaw} {w : World} {K : PySem.W.Frag} {h : Heap} {mg : Str → Option Value} {fa fr g c Pt CN CM : Addr} (X : K.In h) (G : h.Ns mainGlobals mg) (hfa : mg "law" = some (.ref fa))
    {odr anr odg ang : Option Addr} {slr slg : Array (Option Value)} {ocr kVr dcr pmr ctr ocg kVg dcg pmg cdg ctg : Value}
    (w1 : FnFact K "is_whole" sWhole) (w2 : FnFact K "most_after" sAfter) (w3 : FnFact K "most_by_binds" sBinds) (w4 : FnFact K "fewest_to" sTo) (w5 : FnFact K "_law_digit" sDigit) (w6 : FnFact K "_law_pick" sPick)
    (w7 : FnFact K "_law_row" sRow) (w8 : FnFact K "_law_tens" sTens) (w9 : FnFact K "_law_doubled" sDoubled) (w10 : FnFact K "_law_fewest" sFewest) (w11 : FnFact K "law" sLaw)
    (ar : PySem.W.nsIn K mainGlobals "_law_right" = some (some (.ref fr))) (lr : K.lookup fr = some ⟨ocr, odr, .func (PySem.W.fnOf "_law_right" "_law_right" (defArgs sRight) (defBody sRight) (defScope sRight) .none kVr dcr pmr anr (.ref c) ctr), slr⟩) (cr : PySem.W.codeIn K (.ref c) "_law_right" = true) (kr : PySem.W.keepIn K (.ref fr) = true)
    (ag : PySem.W.nsIn K mainGlobals "_law_is_refused" = some (some (.ref g))) (lg : K.lookup g = some ⟨ocg, odg, .func (PySem.W.fnOf "_law_is_refused" "_law_is_refused" (defArgs sRefused) (defBody sRefused) (defScope sRefused) .none kVg dcg pmg ang cdg ctg), slg⟩) (cg : PySem.W.codeIn K cdg "_law_is_refused" = true) (kg : PySem.W.keepIn K (.ref g) = true)
    (aN' : PySem.W.nsIn K mainGlobals "NoNumber" = some (some (.ref CN))) (aM : PySem.W.nsIn K mainGlobals "MountError" = some (some (.ref CM)))
    (xN : PySem.W.excIn K CN [.type "ValueError", .type "Exception", .type "BaseException", .type "object"] "ValueError.__new__" = true) (kN : PySem.W.keepIn K (.ref CN) = true)
    (bN' : PySem.W.subIn K (.ref CN) (.type "BaseException") = some true) (tN' : PySem.W.typeIn K (.ref CN) = some (.type "type")) (hdN : PySem.W.hasDictIn K CN = true) (sN : PySem.W.subIn K (.ref CN) (.ref CN) = some true)
    (z1 : PySem.W.nsIn K mainGlobals "isinstance" = some none) (z2 : PySem.W.nsIn K mainGlobals "int" = some none) (z3 : PySem.W.nsIn K mainGlobals "bool" = some none) (z4 : PySem.W.nsIn K mainGlobals "range" = some none) (z5 : PySem.W.nsIn K mainGlobals "len" = some none)
    (hc : PySem.W.codeHdIn K c Pt = true) (nP : K.lookup Pt = none) (hP : h.get? Pt = some { cls := .none, data := .fields #[] }) :
    LamX.LawAtS l w K CX0 6 63 "_law_script" mg fa h := by
  have B : Bi mg := ⟨PySem.W.mg_none_of X G z1, PySem.W.mg_none_of X G z2, PySem.W.mg_none_of X G z3, PySem.W.mg_none_of X G z4, PySem.W.mg_none_of X G z5⟩
  have T : No K mg CN CM := ⟨PySem.W.mg_of X G aN', PySem.W.mg_of X G aM, xN, kN, bN', tN', PySem.W.exm_ref bN' hdN tN' sN⟩
  obtain ⟨f1, d1, a1, F1⟩ := w1
  obtain ⟨f2, d2, a2, F2⟩ := w2
  obtain ⟨f3, d3, a3, F3⟩ := w3
  obtain ⟨f4, d4, a4, F4⟩ := w4
  obtain ⟨f5, d5, a5, F5⟩ := w5
  obtain ⟨f6, d6, a6, F6⟩ := w6
  obtain ⟨f7, d7, a7, F7⟩ := w7
  obtain ⟨f8, d8, a8, F8⟩ := w8
  obtain ⟨f9, d9, a9, F9⟩ := w9
  obtain ⟨f10, d10, a10, F10⟩ := w10
  obtain ⟨f11, d11, a11, F11⟩ := w11
  have e := hfa.symm.trans (PySem.W.mg_of X G a11)
  cases e
  have b1 := F1.binds (ps := ["thing", "low", "high"]) fun _ _ _ _ _ _ us hl => match us, hl with | [_, _, _], _ => rfl
  have b2 := F2.binds (ps := ["k"]) fun _ _ _ _ _ _ us hl => match us, hl with | [_], _ => rfl
  have b3 := F3.binds (ps := ["k"]) fun _ _ _ _ _ _ us hl => match us, hl with | [_], _ => rfl
  have b4 := F4.binds (ps := ["n"]) fun _ _ _ _ _ _ us hl => match us, hl with | [_], _ => rfl
  have b5 := F5.binds (ps := ["_law_state", "_law_base"]) fun _ _ _ _ _ _ us hl => match us, hl with | [_, _], _ => rfl
  have b6 := F6.binds (ps := ["_law_state", "_law_some"]) fun _ _ _ _ _ _ us hl => match us, hl with | [_, _], _ => rfl
  have b7 := F7.binds (ps := []) fun _ _ _ _ _ _ us hl => match us, hl with | [], _ => rfl
  have b8 := F8.binds (ps := ["_law_many"]) fun _ _ _ _ _ _ us hl => match us, hl with | [_], _ => rfl
  have b9 := F9.binds (ps := ["_law_k"]) fun _ _ _ _ _ _ us hl => match us, hl with | [_], _ => rfl
  have b10 := F10.binds (ps := ["_law_row_here", "_law_n"]) fun _ _ _ _ _ _ us hl => match us, hl with | [_, _], _ => rfl
  have Fr := fun_mk (st := sRight) lr cr kr
  have br := Fr.binds (ps := ["_law_state"]) fun _ _ _ _ _ _ us hl => match us, hl with | [_], _ => rfl
  have Fg := fun_mk (st := sRefused) lg cg kg
  have bg := Fg.binds (ps := ["_law_ask"]) fun _ _ _ _ _ _ us hl => match us, hl with | [_], _ => rfl
  have one : ∀ {φ : Addr × Addr → Prop}, φ (c, Pt) → ∀ p ∈ [(c, Pt)], φ p := fun h p hp => by
    rw [List.mem_singleton.mp hp]
    exact h
  obtain ⟨oc11, od11, kV11, dc11, pm11, an11, cd11, ct11, sl11, e11, _, _⟩ := id F11.ex
  subst e11
  refine ⟨PySem.W.fnOf "law" "law" (defArgs sLaw) (defBody sLaw) (defScope sLaw) .none kV11 dc11 pm11 an11 cd11 ct11, [(c, Pt)], spLaw K Pt, one hP, one nP, one (PySem.W.codeHd_of_K X hc), fun s v => .of_eq rfl, fun H a ns hl _ hH hS => ⟨a, ns, rfl, hS, hl, hH (c, Pt) (List.mem_singleton.mpr rfl), fun _ => rfl⟩, fun base kb gb TB => ?_⟩
  have TB1 : LamX.TabB base mg c Pt := TB (c, Pt) (List.mem_singleton.mpr rfl)
  have D : Defs l.prog w K mg base CN :=
    { after := .of X G a2 F2 b2 (ok_after F2 B F1 b1 (PySem.W.mg_of X G a1))
      binds := .of X G a3 F3 b3 (ok_binds F3 B F1 b1 (PySem.W.mg_of X G a1))
      to := .of X G a4 F4 b4 (ok_to F4 B F1 b1 (PySem.W.mg_of X G a1))
      afterX := .of X G a2 F2 b2 (bad_after F2 B F1 b1 (PySem.W.mg_of X G a1) T)
      bindsX := .of X G a3 F3 b3 (bad_binds F3 B F1 b1 (PySem.W.mg_of X G a1) T)
      toX := .of X G a4 F4 b4 (bad_to F4 B F1 b1 (PySem.W.mg_of X G a1) T)
      digit := .of X G a5 F5 b5 (ok_digit F5 B)
      pick := .of X G a6 F6 b6 (ok_pick F6 B F5 b5 (PySem.W.mg_of X G a5))
      row := .of X G a7 F7 b7 (ok_row F7 B)
      tens := .of X G a8 F8 b8 (ok_tens F8 B)
      doubled := .of X G a9 F9 b9 (ok_doubled F9 B)
      fewest := .of X G a10 F10 b10 (ok_fewest F10 B) }
  have R : RefF K mg g := ⟨⟨_, _, _, _, _, _, _, _, _, _, lg, cg, bg⟩, PySem.W.mg_of X G ag, kg⟩
  exact ok_law F11 B D ⟨fr, _, ok_right lr cr B T D R TB1, PySem.W.mg_of X G ar, kr, br⟩
end K65
open PySem PySem.W PyProof.Rows
set_option maxRecDepth 100000 in
set_option maxHeartbeats 0 in
theorem PySem.Challenge.cw_spreadmounts_k65_greatest_numbers_holds : PySem.Challenge.rw_spreadmounts_k65_greatest_numbers.Holds := by
  w_on; o_law; k_head; (case hw => w_witness2)
  k_fill
  refine LamX.walk_ofTs (l := PySem.Challenge.rw_spreadmounts_k65_greatest_numbers) (n := 63) (k := 6) (x := "_law_script") (CX := fun _ => L2.CX0) rfl (by decide) rfl ⟨rfl, by decide, by decide⟩ (fun w h Y => PySem.W.km_in_of Y) ?F (fun _ _ _ _ _ h => h)
  case F =>
    intro w mg fa h Y KX G hmg
    have hT := PySem.W.km_tabs_of Y
    refine' K65.law_at KX G hmg ?w1 ?w2 ?w3 ?w4 ?w5 ?w6 ?w7 ?w8 ?w9 ?w10 ?w11 ?ar ?lr ?cr ?kr ?ag ?lg ?cg ?kg ?aN ?aM ?xN ?kN ?bN ?tN ?hdN ?sN ?z1 ?z2 ?z3 ?z4 ?z5 ?hc9 ?nP9 ?hP9
    (case ar => k_is); (case lr => k_is); (case cr => k_is); (case kr => k_is)
    (case ag => k_is); (case lg => k_is); (case cg => k_is); (case kg => k_is)
    (case aN => k_is); (case aM => k_is); (case xN => k_exc); (case kN => k_is); (case bN => k_is); (case tN => k_is); (case hdN => k_is); (case sN => first | rfl | k_is)
    (case z1 => k_is); (case z2 => k_is); (case z3 => k_is); (case z4 => k_is); (case z5 => k_is)
    (case hP9 => exact hT _ (List.mem_singleton.mpr rfl))
    (case hc9 => kernel_rfl); (case nP9 => kernel_rfl)
    all_goals (refine' K65.FnFact.of ?a ?l ?c ?k; (case a => k_is); (case l => k_is); (case c => k_is); (case k => k_is))
