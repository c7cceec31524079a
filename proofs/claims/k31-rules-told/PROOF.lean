import PyProof.Rows.All
import Wide.All
import OpenK.AllK
import Wide.FinOn
import HandS.ForMost
import HandS.Evl
import PySem.Challenge.RW_unseenslopes_k31_rules_told
import HandS.IsInst
import HandS.Zip
import HandS.Walk
import HandS.Exc
import HandS.ExcField
import HandS.WordsExc
import HandS.HotCalls
import HandS.FStr
import HandS.ClsMeth
import HandS.Deep
import KE.KCallOwn
import KE.KFmtOwn
import HandS.ExcInit
import HandS.Defaults
import HandS.MakeKwOnly
import HandS.Lambda
import HandS.EndOwn
import KE.KNestM
set_option Elab.async false
set_option linter.all false
set_option maxRecDepth 100000
set_option maxHeartbeats 4000000
namespace Mine
open PySem PySem.Spec PyProof.Rows L2
def top (i : Nat) : Stmt := PySem.Challenge.pw_unseenslopes_k31_rules_told.main.body.getD i (.Pass ⟨0, 0, 0, 0⟩)
abbrev s_InvalidName_D_initD_ : Stmt := inClass (top 2) 0
theorem sc_InvalidName_D_initD_ : FnScope ["self", "given"] ["self", "given"] (defScope s_InvalidName_D_initD_) := ⟨rfl, rfl, rfl, by decide +kernel, rfl, by decide +kernel, by decide +kernel⟩
abbrev s_Rule_D_initD_ : Stmt := inClass (top 6) 0
theorem sc_Rule_D_initD_ : FnScope ["self", "naming", "renewed"] ["self", "naming", "renewed"] (defScope s_Rule_D_initD_) := ⟨rfl, rfl, rfl, by decide +kernel, rfl, by decide +kernel, by decide +kernel⟩
abbrev s_Rule_every : Stmt := inClass (top 6) 1
theorem sc_Rule_every : FnScope ["naming", "flag"] [] (defScope s_Rule_every) := ⟨rfl, rfl, rfl, by decide +kernel, rfl, by decide +kernel, by decide +kernel⟩
abbrev s_Rule_D_eqD_ : Stmt := inClass (top 6) 2
theorem sc_Rule_D_eqD_ : FnScope ["self", "other"] ["self", "other"] (defScope s_Rule_D_eqD_) := ⟨rfl, rfl, rfl, by decide +kernel, rfl, by decide +kernel, by decide +kernel⟩
abbrev s_Rule_D_strD_ : Stmt := inClass (top 6) 3
theorem sc_Rule_D_strD_ : FnScope ["self"] ["self"] (defScope s_Rule_D_strD_) := ⟨rfl, rfl, rfl, by decide +kernel, rfl, by decide +kernel, by decide +kernel⟩
abbrev s_Rule_D_reprD_ : Stmt := inClass (top 6) 4
theorem sc_Rule_D_reprD_ : FnScope ["self"] ["self"] (defScope s_Rule_D_reprD_) := ⟨rfl, rfl, rfl, by decide +kernel, rfl, by decide +kernel, by decide +kernel⟩
abbrev s_L_bag : Stmt := top 8
theorem sc_L_bag : FnScope ["_law_script"] ["_law_script"] (defScope s_L_bag) := ⟨rfl, rfl, rfl, by decide +kernel, rfl, by decide +kernel, by decide +kernel⟩
abbrev s_L_pull : Stmt := top 9
theorem sc_L_pull : FnScope ["_law_bag_here", "_law_many", "_law_cell", "_law_small", "_law_digit", "_law_seed", "_law_step"] ["_law_bag_here", "_law_many"] (defScope s_L_pull) := ⟨rfl, rfl, rfl, by decide +kernel, rfl, by decide +kernel, by decide +kernel⟩
abbrev s_L_of : Stmt := top 10
theorem sc_L_of : FnScope ["_law_bag_here", "_law_things"] ["_law_bag_here", "_law_things"] (defScope s_L_of) := ⟨rfl, rfl, rfl, by decide +kernel, rfl, by decide +kernel, by decide +kernel⟩
abbrev s_L_same : Stmt := top 11
theorem sc_L_same : FnScope ["_law_found", "_law_due", "_law_a", "_law_b"] ["_law_found", "_law_due"] (defScope s_L_same) := ⟨rfl, rfl, rfl, by decide +kernel, rfl, by decide +kernel, by decide +kernel⟩
abbrev s_L_field : Stmt := top 12
theorem sc_L_field : FnScope ["_law_e"] ["_law_e"] (defScope s_L_field) := ⟨rfl, rfl, rfl, by decide +kernel, rfl, by decide +kernel, by decide +kernel⟩
abbrev s_L_other_field : Stmt := top 13
theorem sc_L_other_field : FnScope ["_law_e"] ["_law_e"] (defScope s_L_other_field) := ⟨rfl, rfl, rfl, by decide +kernel, rfl, by decide +kernel, by decide +kernel⟩
abbrev s_L_why : Stmt := top 14
theorem sc_L_why : FnScope ["_law_ask", "_law_e"] ["_law_ask"] (defScope s_L_why) := ⟨rfl, rfl, rfl, by decide +kernel, rfl, by decide +kernel, by decide +kernel⟩
abbrev s_law : Stmt := top 15
theorem sc_law : FnScope ["_law_script", "_law_bag_here", "_law_namings", "_law_rows", "_law_naming", "_law_k", "_law_j", "_law_one", "_law_other", "_law_text", "_law_found", "_law_odd", "_law_rule"] ["_law_script"] (defScope s_law) := ⟨rfl, rfl, rfl, by decide +kernel, rfl, by decide +kernel, by decide +kernel⟩
end Mine
namespace Mine
open PySem PySem.Spec PyProof.Rows L2
/-! ### the bag of draws -/
def bagO (l : Addr) (i r m n : Int) : HO := .lst [.ref l, .int i, .int r, .int m, .int n]
structure BagV (H : Hp) (l : Addr) (i r m : Int) : Prop where
  ls : ∃ ns : List Int, H l = some (.lst (ns.map V.int))
  i0 : 0 ≤ i
  r0 : 0 ≤ r
  m0 : 0 ≤ m
  m1 : m < 2147483549
def Bag (H : Hp) (b : Addr) : Prop := ∃ l i r m n, H b = some (bagO l i r m n) ∧ BagV H l i r m ∧ l ≠ b
theorem Bag.put {H : Hp} {b l : Addr} {i r m n : Int} (ne : l ≠ b) (h : BagV H l i r m) : Bag (upd H b (bagO l i r m n)) b :=
  ⟨l, i, r, m, n, upd_same, ⟨(let ⟨ns, e⟩ := h.ls; ⟨ns, by rw [upd_ne ne]; exact e⟩), h.i0, h.r0, h.m0, h.m1⟩, ne⟩
theorem Bag.same {H H' : Hp} {b : Addr} (h : Bag H b) (e : ∀ c o, H c = some o → H' c = some o) : Bag H' b := by
  obtain ⟨l, i, r, m, n, hb, hV, ne⟩ := h
  obtain ⟨ns, hl⟩ := hV.ls
  exact ⟨l, i, r, m, n, e _ _ hb, ⟨⟨ns, e _ _ hl⟩, hV.i0, hV.r0, hV.m0, hV.m1⟩, ne⟩
def spPull : Sp := fun vs H Q _ => ∃ (b : Addr) (many : Int), vs = [.ref b, .int many] ∧ Bag H b ∧ 0 < many ∧ many < 1073741824 ∧
  ∀ (d : Int) (o : HO), 0 ≤ d → d < many → Bag (upd H b o) b → Q (.int d) (upd H b o)
structure TxtL (mg : Str → Option Value) : Prop where
  len : mg "len" = none
  abs : mg "abs" = none
  int : mg "int" = none
  list : mg "list" = none
section
variable {P : Program} {w : World} {K : PySem.W.Frag} {mg : Str → Option Value} {base : Heap}
theorem itT {c : Bool} {A B : Prop} (hc : c = true) (h : A) : if c = true then A else B := by
  rw [if_pos hc]
  exact h
theorem itF {c : Bool} {A B : Prop} (hc : c = false) (h : B) : if c = true then A else B := by
  rw [hc, if_neg Bool.false_ne_true]
  exact h
theorem rd_ix {σ : L2.St} {H : Hp} {Q : VK} {b : Addr} {xs : List V} {i : Int} {v : V} (s0 : σ[0]? = some (some (.ref b))) (h : H b = some (.lst xs)) (ha : atI xs i = some v) (q : Q v H) : tOp (rIxL K) (tVar 0) (tC (.int i)) σ H Q :=
  ⟨_, s0, b, xs, i, v, rfl, rfl, SqL.of h, ha, q⟩
theorem rd_set {σ : L2.St} {H : Hp} {D : Ends} {b : Addr} {xs : List V} {i : Int} {j : Nat} {v : V} {te : TE} (s0 : σ[0]? = some (some (.ref b))) (he : ∀ Q : VK, Q v H → te σ H Q) (h : H b = some (.lst xs)) (hj : ixN xs.length i = some j) (q : D.nx σ (upd H b (.lst (xs.set j v)))) :
    tAsg te (gSub (tVar 0) (tC (.int i)) rSetL) D σ H := he _ ⟨_, s0, b, xs, i, j, rfl, rfl, h, hj, q⟩
theorem at_range {ns : List Int} {i : Int} (h0 : 0 ≤ i) (h1 : i < ((ns.map V.int).length : Int)) : ∃ z, atI (ns.map V.int) i = some (V.int z) := by
  have h2 : i.toNat < ns.length := by rw [List.length_map] at h1; omega
  refine ⟨ns[i.toNat], ?_⟩
  unfold atI ixN
  rw [if_pos h0, if_pos h1]
  simp [h2]
theorem ok_pull {f : Addr} {fd : FuncData} (F : Fun K "_law_pull" "_law_pull" s_L_pull f fd) (T : TxtL mg) : FnOk P w K mg base CX0 1 f fd ["_law_bag_here", "_law_many"] spPull := by
  refine F.ok sc_L_pull (fun vs H Q E h => ?_) (fun cdv A outer s H vs Q E hr h => ?_)
  · obtain ⟨b, many, rfl, _⟩ := h
    rfl
  · obtain ⟨b, many, rfl, ⟨l, i, r, m, n, hb, hV, ne⟩, hm0, hm1, k⟩ := h
    refine ⟨_, (pss_cons (ps_asg (pe_op op_add (pe_ix ix_list (pv 0) pe_int (fun _ _ => rfl)) pe_int) (pg_sub (pv 0) pe_int set_list))
 (Evl.pss_cut (ps_if (PW.pt (pw_and (pt_cmpR op_eq (pe_ix ix_list (pv 0) pe_int (fun _ _ => rfl)) pe_int (nomark _)) (pw_and1 (pt_cmpR op_lt (pe_ix ix_list (pv 0) pe_int (fun _ _ => rfl)) (pe_callB call_len_seq (by rfl) T.len PySem.boot_len (pa_cons (pe_ix ix_list (pv 0) pe_int (fun _ _ => rfl)) pa_nil)) (nomark _)))))
 (pss_cons (ps_set (i := 2) sc_L_pull.nd rfl (Or.inl rfl) (pe_ix ix_list (pe_ix ix_list (pv 0) pe_int (fun _ _ => rfl)) (pe_ix ix_list (pv 0) pe_int (fun _ _ => rfl)) (fun _ _ => rfl)))
 (pss_cons (ps_asg (pe_op op_add (pe_ix ix_list (pv 0) pe_int (fun _ _ => rfl)) pe_int) (pg_sub (pv 0) pe_int set_list))
 (pss_one (ps_if (pt_cmpR op_ge (pe_callB call_abs (by rfl) T.abs (by decide +kernel) (pa_cons (pv 2) pa_nil)) (pe_op op_pow pe_int pe_int) (nomark _))
 (pss_one (ps_asg (pe_callB call_abs (by rfl) T.abs (by decide +kernel) (pa_cons (pv 2) pa_nil)) (pg_sub (pv 0) pe_int set_list)))
 (pss_cons (ps_set (i := 3) sc_L_pull.nd rfl (Or.inl rfl) (pe_op op_add (pe_op op_mul (pe_op op_mod (pe_callTy call_int1 (by rfl) T.int (by decide +kernel) (pa_cons (pv 2) pa_nil)) pe_int) pe_int) pe_int))
 (pss_one (ps_asg (pe_op op_mod (pe_callTy call_int1 (by rfl) T.int (by decide +kernel) (pa_cons (pe_op op_add (pe_op op_mul (pe_ix ix_list (pv 0) pe_int (fun _ _ => rfl)) pe_int) (pv 3)) pa_nil)) pe_int) (pg_sub (pv 0) pe_int set_list))))))))
 pss_nil)
 (pss_cons (ps_if (pt_cmpR op_gt (pe_ix ix_list (pv 0) pe_int (fun _ _ => rfl)) pe_int (nomark _))
 (pss_cons (ps_set (i := 4) sc_L_pull.nd rfl (Or.inl rfl) (pe_op op_mod (pe_callTy call_int1 (by rfl) T.int (by decide +kernel) (pa_cons (pe_ix ix_list (pv 0) pe_int (fun _ _ => rfl)) pa_nil)) (pv 1)))
 (pss_cons (ps_asg (pe_op op_fdiv (pe_ix ix_list (pv 0) pe_int (fun _ _ => rfl)) (pv 1)) (pg_sub (pv 0) pe_int set_list))
 (pss_one (ps_ret (pv 4)))))
 pss_nil)
 (pss_cons (ps_set (i := 5) sc_L_pull.nd rfl (Or.inl rfl) (pe_ix ix_list (pv 0) pe_int (fun _ _ => rfl)))
 (pss_cons (ps_set (i := 6) sc_L_pull.nd rfl (Or.inl rfl) (pe_op op_add (pe_op op_add (pe_op op_mul (pv 5) pe_int) (pe_op op_mul (pe_ix ix_list (pv 0) pe_int (fun _ _ => rfl)) pe_int)) pe_int))
 (pss_cons (ps_asg (pe_op op_mod (pe_callTy call_int1 (by rfl) T.int (by decide +kernel) (pa_cons (pe_op op_add (pe_op op_mul (pe_op op_mul (pv 5) (pv 5)) pe_int) (pv 6)) pa_nil)) pe_int) (pg_sub (pv 0) pe_int set_list))
 (pss_one (ps_ret (pe_op op_mod (pe_callTy call_int1 (by rfl) T.int (by decide +kernel) (pa_cons (pe_op op_add (pe_op op_fdiv (pe_ix ix_list (pv 0) pe_int (fun _ _ => rfl)) pe_int) (pe_op op_mul (pe_op op_mod (pe_callTy call_int1 (by rfl) T.int (by decide +kernel) (pa_cons (pe_ix ix_list (pv 0) pe_int (fun _ _ => rfl)) pa_nil)) pe_int) pe_int)) pa_nil)) (pv 1)))))))))), ?_⟩
    obtain ⟨ns, hl⟩ := hV.ls
    refine ⟨_, rfl, b, _, _, _, rfl, rfl, SqL.of hb, rfl, _, _, rfl, rfl, _, rfl, b, _, _, _, rfl, rfl, hb, rfl, ?_⟩
    refine ⟨fun σ' H' => ∃ (c z : Option V) (i r m n : Int), σ' = [some (.ref b), some (.int many), c, z, none, none, none] ∧ BagV H l i r m ∧ H' = upd H b (bagO l i r m n), ?_, ?_⟩
    · -- if bag[2] == 0 and bag[1] < len(bag[0])
      have hl' : ∀ o, (upd H b o) l = some (.lst (ns.map V.int)) := fun o => by rw [upd_ne ne]; exact hl
      refine ⟨_, rfl, b, _, _, _, rfl, rfl, SqL.of upd_same, rfl, rfl, _, rfl, ?_⟩
      by_cases c0 : r = 0
      · subst c0
        refine itT rfl ?_
        refine ⟨_, rfl, b, _, _, _, rfl, rfl, SqL.of upd_same, rfl, ?_⟩
        refine ⟨_, rfl, b, _, _, _, rfl, rfl, SqL.of upd_same, rfl, l, _, rfl, .inl (SqL.of (hl' _)), _, _, rfl, rfl, _, rfl, ?_⟩
        by_cases c1 : i < ((ns.map V.int).length : Int)
        · refine itT (decide_eq_true c1) ?_
          obtain ⟨z, hz⟩ := at_range hV.i0 c1
          refine ⟨_, rfl, b, _, _, _, rfl, rfl, SqL.of upd_same, rfl, _, rfl, b, _, _, _, rfl, rfl, SqL.of upd_same, rfl, l, _, i, _, rfl, rfl, SqL.of (hl' _), hz, ?_⟩
          refine ⟨_, rfl, b, _, _, _, rfl, rfl, SqL.of upd_same, rfl, _, _, rfl, rfl, _, rfl, b, _, _, _, rfl, rfl, upd_same, rfl, ?_⟩
          refine ⟨_, rfl, z, rfl, _, _, rfl, rfl, ⟨by decide, by decide, by decide⟩, _, _, rfl, rfl, _, rfl, ?_⟩
          by_cases c2 : (10 : Int) ^ (18 : Int).toNat ≤ (if z < 0 then -z else z)
          · refine itT (decide_eq_true c2) ?_
            refine ⟨_, rfl, z, rfl, _, rfl, b, _, _, _, rfl, rfl, upd_same, rfl, ?_⟩
            refine ⟨_, _, i + 1, (if z < 0 then -z else z), m, n + 1, rfl, ⟨⟨ns, hl⟩, by have := hV.i0; omega, by split <;> omega, hV.m0, hV.m1⟩, ?_⟩
            rw [upd_upd, upd_upd]
            rfl
          · refine itF (decide_eq_false c2) ?_
            refine ⟨_, rfl, .inl ⟨z, rfl, _, _, rfl, rfl, (by show (0 : Int) < 1000000007; decide), _, _, rfl, rfl, .inr ⟨by decide, by decide⟩, _, _, rfl, rfl, ?_⟩⟩
            refine ⟨_, rfl, b, _, _, _, rfl, rfl, SqL.of upd_same, rfl, _, _, rfl, rfl, .inr ⟨by decide, by decide⟩, _, rfl, _, _, rfl, rfl, .inl ⟨_, rfl, _, _, rfl, rfl, (by show (0 : Int) < 2147483549; decide), _, rfl, b, _, _, _, rfl, rfl, upd_same, rfl, ?_⟩⟩
            refine ⟨_, _, i + 1, 0, (m * 41759 + (z % 1000000007 * 30119 + 61)) % 2147483549, n + 1, rfl, ⟨⟨ns, hl⟩, by have := hV.i0; omega, Int.le_refl 0, Int.emod_nonneg _ (by decide), Int.emod_lt_of_pos _ (by decide)⟩, ?_⟩
            rw [upd_upd, upd_upd]
            rfl
        · refine itF (decide_eq_false c1) ?_
          exact ⟨none, none, i, 0, m, n + 1, rfl, hV, rfl⟩
      · have e2 : decide (V.int r = V.int 0) = false := decide_eq_false (fun z => c0 (V.int.inj z))
        refine itF e2 ?_
        refine itF rfl ?_
        exact ⟨none, none, i, r, m, n + 1, rfl, hV, rfl⟩
    · rintro σ' H' ⟨c, z, i, r, m, n, rfl, hV, rfl⟩
      refine ⟨_, rfl, b, _, _, _, rfl, rfl, SqL.of upd_same, rfl, _, _, rfl, rfl, _, rfl, ?_⟩
      by_cases c0 : (0 : Int) < r
      · refine itT (decide_eq_true c0) ?_
        refine ⟨_, rfl, b, _, _, _, rfl, rfl, SqL.of upd_same, rfl, .inl ⟨_, rfl, _, rfl, _, _, rfl, rfl, hm0, ?_⟩⟩
        refine ⟨_, rfl, b, _, _, _, rfl, rfl, SqL.of upd_same, rfl, _, rfl, _, _, rfl, rfl, ⟨hm0, hm1⟩, _, rfl, b, _, _, _, rfl, rfl, upd_same, rfl, ?_⟩
        refine ⟨_, rfl, ?_⟩
        have q := k (r % many) (bagO l i (r / many) m n) (Int.emod_nonneg _ (by omega)) (Int.emod_lt_of_pos _ hm0) (Bag.put (n := n) ne ⟨⟨ns, hl⟩, hV.i0, Int.ediv_nonneg hV.r0 (by omega), hV.m0, hV.m1⟩)
        rw [← upd_upd (H := H) (a := b) (o := bagO l i r m n)] at q
        exact q
      · refine itF (decide_eq_false c0) ?_
        refine ⟨_, rfl, b, _, _, _, rfl, rfl, SqL.of upd_same, rfl, ?_⟩
        have b1 : -(2 ^ 64) < m ∧ m < 2 ^ 64 := ⟨by have := hV.m0; omega, by have := hV.m1; omega⟩
        refine ⟨_, rfl, _, _, rfl, rfl, .inl b1, ?_⟩
        refine ⟨_, rfl, b, _, _, _, rfl, rfl, SqL.of upd_same, rfl, _, _, rfl, rfl, .inr ⟨by decide, by decide⟩, _, _, rfl, rfl, _, _, rfl, rfl, ?_⟩
        refine ⟨_, rfl, _, rfl, _, _, rfl, rfl, .inl b1, _, _, rfl, rfl, .inr ⟨by decide, by decide⟩, _, rfl, _, _, rfl, rfl, .inl ⟨_, rfl, _, _, rfl, rfl, (by show (0 : Int) < 2147483549; decide), _, rfl, b, _, _, _, rfl, rfl, upd_same, rfl, ?_⟩⟩
        have x0 : 0 ≤ (m * m * 19 + (m * 57191 + n * 104789 + 90031)) % 2147483549 := Int.emod_nonneg _ (by decide)
        have x1 : (m * m * 19 + (m * 57191 + n * 104789 + 90031)) % 2147483549 < 2147483549 := Int.emod_lt_of_pos _ (by decide)
        refine ⟨_, rfl, b, _, _, _, rfl, rfl, SqL.of upd_same, rfl, _, _, rfl, rfl, ⟨by decide, by decide⟩, ?_⟩
        refine ⟨_, rfl, b, _, _, _, rfl, rfl, SqL.of upd_same, rfl, .inl ⟨_, rfl, _, _, rfl, rfl, (by show (0 : Int) < 7901; decide), _, _, rfl, rfl, .inr ⟨by decide, by decide⟩, _, _, rfl, rfl, .inl ⟨_, rfl, _, rfl, _, _, rfl, rfl, hm0, ?_⟩⟩⟩
        have q := k (((m * m * 19 + (m * 57191 + n * 104789 + 90031)) % 2147483549 / 101 + (m * m * 19 + (m * 57191 + n * 104789 + 90031)) % 2147483549 % 7901 * 71) % many) (bagO l i r ((m * m * 19 + (m * 57191 + n * 104789 + 90031)) % 2147483549) n) (Int.emod_nonneg _ (by omega)) (Int.emod_lt_of_pos _ hm0) (Bag.put (n := n) ne ⟨⟨ns, hl⟩, hV.i0, hV.r0, x0, x1⟩)
        rw [← upd_upd (H := H) (a := b) (o := bagO l i r m n)] at q
        exact q
end
end Mine
namespace Mine
open PySem PySem.Spec PyProof.Rows L2
/-! ### data -/
def okD : Nat → PyData → Bool
  | _, .none => true
  | _, .bool _ => true
  | _, .int _ => true
  | _, .str _ => true
  | n + 1, .list ds => decide (ds.length ≤ 1000) && ds.all (okD n)
  | n + 1, .tuple ds => decide (ds.length ≤ 1000) && ds.all (okD n)
  | _, _ => false
def tyD : PyData → Value
  | .none => .type "NoneType"
  | .bool _ => .type "bool"
  | .int _ => .type "int"
  | .str _ => .type "str"
  | .list _ => .type "list"
  | .tuple _ => .type "tuple"
  | .dict _ => .type "dict"
theorem Same.sqT {K : PySem.W.Frag} {H H' : Hp} {a : Addr} {xs : List V} (e : Same H H') (h : SqT K H a xs) : SqT K H' a xs := Evl.ex_t e h
mutual
theorem dp_mono {K : PySem.W.Frag} {H H' : Hp} (e : Same H H') : ∀ (d : PyData) (v : V), Dp K H v d → Dp K H' v d
  | .none, _, h => by cases h; exact .non
  | .bool b, _, h => by cases h; exact .bl b
  | .int i, _, h => by cases h; exact .int i
  | .str x, _, h => by cases h; exact .str x
  | .list ds, _, h => by
    cases h with
    | lst s a => exact .lst (Evl.ex_l e s) (dpAll_mono e ds _ a)
  | .tuple ds, _, h => by
    cases h with
    | tup s a => exact .tup (Evl.ex_t e s) (dpAll_mono e ds _ a)
  | .dict _, _, h => nomatch h
theorem dpAll_mono {K : PySem.W.Frag} {H H' : Hp} (e : Same H H') : ∀ (ds : List PyData) (vs : List V), DpAll K H vs ds → DpAll K H' vs ds
  | [], _, h => by cases h; exact .nil
  | d :: ds, _, h => by
    cases h with
    | cons a b => exact .cons (dp_mono e d _ a) (dpAll_mono e ds _ b)
end
theorem Same.new {H : Hp} {p : Addr} {o : HO} (h : H p = none) : Same H (upd H p o) := Evl.Ex.new h
theorem sz2 : 2 ≤ sizeLine := by decide
theorem dpAll_len {K : PySem.W.Frag} {H : Hp} : ∀ {ds : List PyData} {vs : List V}, DpAll K H vs ds → vs.length = ds.length
  | _, _, .nil => rfl
  | _, _, .cons _ b => congrArg (· + 1) (dpAll_len b)
theorem dpAll_at {K : PySem.W.Frag} {H : Hp} : ∀ {ds : List PyData} {vs : List V} {i : Nat} {v : V}, DpAll K H vs ds → vs[i]? = some v → ∃ d, ds[i]? = some d ∧ Dp K H v d
  | _, _, _, _, .nil, h => by simp at h
  | _, _, 0, _, .cons a _, h => by simp at h; subst h; exact ⟨_, rfl, a⟩
  | _, _, i + 1, v, .cons _ b, h => by
    obtain ⟨d, h1, h2⟩ := dpAll_at (i := i) (v := v) b (by simpa using h)
    exact ⟨d, by simpa using h1, h2⟩
theorem dp_ty {K : PySem.W.Frag} {H : Hp} {v : V} {d : PyData} (h : Dp K H v d) : TyX K H v (tyD d) := by
  cases h with
  | non => exact .base .non
  | bl b => exact .base (.bl b)
  | int i => exact .base (.int i)
  | str x => exact .base (.str x)
  | lst s a =>
    rcases s with (s | ⟨o, s⟩) | ⟨o, its, n, s, c, _⟩
    · exact .base (.lst s)
    · exact .base (.frz s)
    · exact .kList s c
  | tup s a =>
    rcases s with (s | ⟨o, s⟩) | ⟨o, its, n, s, c, _⟩
    · exact .base (.tup s)
    · exact .fTuple s
    · exact .kTuple s c
theorem walk_zipT {K : PySem.W.Frag} {a b : Addr} {xs ys : List V} {n : Nat} (hn : n = min xs.length ys.length) : Walk (RZ.ItzT K a b) n (fun H => SqT K H a xs ∧ SqT K H b ys) (YPair (fun i => xs[i]?) (fun i => ys[i]?)) := by
  subst hn
  constructor
  · intro i H hi q
    have h1 : i < xs.length := by omega
    have h2 : i < ys.length := by omega
    exact ⟨xs, ys, xs[i], ys[i], q.1, q.2, by simp [h1], by simp [h2]⟩
  · intro H q
    exact ⟨xs, ys, q.1, q.2, by omega⟩
  · intro i H v H' _ q y
    obtain ⟨T, x, z, h1, h2, h3, h4, h5⟩ := y
    exact ⟨T, x, z, h1, h2, h3, h4 xs q.1, h5 ys q.2⟩
def isBoolD : PyData → Bool
  | .bool _ => true
  | _ => false
def isIntD : PyData → Bool
  | .bool _ => true
  | .int _ => true
  | _ => false
def isStrD : PyData → Bool
  | .str _ => true
  | _ => false
def isListD : PyData → Bool
  | .list _ => true
  | _ => false
def isTupD : PyData → Bool
  | .tuple _ => true
  | _ => false
theorem kit_bool {K : PySem.W.Frag} (d : PyData) : PySem.W.kitOne K (tyD d) (.type "bool") = some (isBoolD d) := by cases d <;> first | exact kit_ty (show kitB _ _ = some true by decide +kernel) | exact kit_ty (show kitB _ _ = some false by decide +kernel)
theorem kit_int {K : PySem.W.Frag} (d : PyData) : PySem.W.kitOne K (tyD d) (.type "int") = some (isIntD d) := by cases d <;> first | exact kit_ty (show kitB _ _ = some true by decide +kernel) | exact kit_ty (show kitB _ _ = some false by decide +kernel)
theorem kit_str {K : PySem.W.Frag} (d : PyData) : PySem.W.kitOne K (tyD d) (.type "str") = some (isStrD d) := by cases d <;> first | exact kit_ty (show kitB _ _ = some true by decide +kernel) | exact kit_ty (show kitB _ _ = some false by decide +kernel)
theorem kit_list {K : PySem.W.Frag} (d : PyData) : PySem.W.kitOne K (tyD d) (.type "list") = some (isListD d) := by cases d <;> first | exact kit_ty (show kitB _ _ = some true by decide +kernel) | exact kit_ty (show kitB _ _ = some false by decide +kernel)
theorem kit_tup {K : PySem.W.Frag} (d : PyData) : PySem.W.kitOne K (tyD d) (.type "tuple") = some (isTupD d) := by cases d <;> first | exact kit_ty (show kitB _ _ = some true by decide +kernel) | exact kit_ty (show kitB _ _ = some false by decide +kernel)
theorem kit_lt {K : PySem.W.Frag} (d : PyData) : PySem.W.kitAny K (tyD d) [.type "list", .type "tuple"] = some (isListD d || isTupD d) :=
  kitAny_cons (kit_list d) (fun _ => kitAny_cons (kit_tup d) (fun h => by rw [kitAny_nil, h]; cases e : isListD d <;> simp_all) (fun h => by rw [h, Bool.or_true])) (fun h => by rw [h, Bool.true_or])
/-- equal data are told to be the same -/
def spSame (K : PySem.W.Frag) : Nat → Sp
  | 0 => fun _ _ _ _ => False
  | n + 1 => fun vs H Q _ => ∃ (x y : V) (d : PyData), vs = [x, y] ∧ Dp K H x d ∧ Dp K H y d ∧ okD n d = true ∧ ∀ H', Same H H' → Q (.bl true) H'
structure TxtS (K : PySem.W.Frag) (mg : Str → Option Value) (fS : Addr) : Prop where
  len : mg "len" = none
  isinstance : mg "isinstance" = none
  bool : mg "bool" = none
  int : mg "int" = none
  str : mg "str" = none
  list : mg "list" = none
  tuple : mg "tuple" = none
  all : mg "all" = none
  zip : mg "zip" = none
  g_same : mg "_law_same" = some (.ref fS)
  k_same : PySem.W.keepIn K (.ref fS) = true
section
variable {P : Program} {w : World} {K : PySem.W.Frag} {mg : Str → Option Value} {base : Heap}
/-- the list of a comprehension over pairs, each told True -/
theorem same_all {K : PySem.W.Frag} {m : Nat} {D : Addr} {xs ys : List V} {ds : List PyData} {J : It} {H : Hp} {G : Hp → Prop} {Qd : Hp → Prop} {σ : L2.St} (hσ : ∀ u v : V, (((wipe σ [2, 3]).set 2 (some u)).set 3 (some v))[2]? = some (some u) ∧ (((wipe σ [2, 3]).set 2 (some u)).set 3 (some v))[3]? = some (some v) ∧ wipe (((wipe σ [2, 3]).set 2 (some u)).set 3 (some v)) [2, 3] = wipe σ [2, 3])
    (w : Walk J ds.length G (YPair (fun i => xs[i]?) (fun i => ys[i]?))) (hG : ∀ H', Same H H' → G H') (hD : H D = none) (hx : DpAll K H xs ds) (hy : DpAll K H ys ds) (hl : ds.length ≤ 1000) (ok : ds.all (okD m) = true)
    (q : ∀ H', Same H H' → H' D = some (.lst ((List.replicate ds.length true).map V.bl)) → Qd H') :
    ∃ W : Nat → Nat → Hp → Prop, (∃ m, W 0 m (upd H D (.lst []))) ∧ ∀ i m' H, W i m' H →
      (J.stop i H ∧ Qd H) ∨ (J.go i H ∧ ∃ Nx : Hp → Prop, (∀ H', Nx H' → ∃ m'', m'' < m' ∧ W (i + 1) m'' H') ∧ ∀ x H', J.yld i H x H' → gTup K 2 (gCons (gName 2) (gCons (gName 3) gNil)) x (wipe σ [2, 3]) H' fun σ2 H2 => wipe σ2 [2, 3] = wipe σ [2, 3] ∧ tYes σ2 H2 fun b H3 =>
        if b = true then tCall (spSame K (m + 1)) [] E0 (tCons (tVar 2) (tCons (tVar 3) tNil)) σ2 H3 fun y H4 => ∃ acc, H4 D = some (.lst acc) ∧ acc.length < sizeLine ∧ Nx (upd H4 D (.lst (acc ++ [y]))) else Nx H3) := by
  refine lc_it w (fun i H' => Same H H' ∧ H' D = some (.lst ((List.replicate i true).map V.bl))) ⟨fun c o e => by rw [upd_ne (ne_of_none e hD)]; exact e, upd_same⟩ (fun i H' _ p => hG H' p.1) ?_ (fun H' p => q H' p.1 p.2)
  rintro i v H1 H2 hi ⟨s1, hd1⟩ ⟨T, x, y, rfl, nT, rfl, hxi, hyi⟩
  have sT : Same H1 (upd H1 T (.tup [x, y])) := fun c o e => by rw [upd_ne (ne_of_none e nT)]; exact e
  have s2 : Same H (upd H1 T (.tup [x, y])) := s1.trans sT
  obtain ⟨d1, e1, dx⟩ := dpAll_at hx hxi
  obtain ⟨d2, e2, dy⟩ := dpAll_at hy hyi
  rw [e1] at e2
  cases e2
  have okd : okD m d1 = true := (List.all_eq_true.mp ok) d1 (List.mem_of_getElem? e1)
  obtain ⟨g2, g3, gw⟩ := hσ x y
  refine ⟨T, _, rfl, .inl (.inl upd_same), rfl, ⟨x, _, rfl, ⟨y, _, rfl, ⟨rfl, gw, ?_⟩⟩⟩⟩
  refine ⟨x, g2, y, g3, x, y, d1, rfl, dp_mono s2 _ _ dx, dp_mono s2 _ _ dy, okd, fun H3 s3 => ?_⟩
  have hd3 : H3 D = some (.lst ((List.replicate i true).map V.bl)) := s3 _ _ (sT _ _ hd1)
  refine ⟨_, hd3, ?_, fun c o e => ?_, ?_⟩
  · rw [List.length_map, List.length_replicate]
    exact small1000 (by omega)
  · rw [upd_ne (ne_of_none e hD)]
    exact s3 _ _ (s2 _ _ e)
  · rw [upd_same, List.replicate_succ', List.map_append]
    rfl
theorem ok_same {f : Addr} {fd : FuncData} (F : Fun K "_law_same" "_law_same" s_L_same f fd) (T : TxtS K mg f) (b_same : Binds K fd ["_law_found", "_law_due"] []) : ∀ n : Nat, FnOk P w K mg base CX0 n f fd ["_law_found", "_law_due"] (spSame K n) := by
  intro n
  induction n with
  | zero => exact ⟨fun _ _ _ _ h => h.elim, fun _ _ _ _ _ _ _ _ _ _ _ _ _ h => h.elim⟩
  | succ n G_same =>
  refine F.ok sc_L_same (fun vs H Q E h => ?_) (fun cdv A outer s H vs Q E r_same h => ?_)
  · obtain ⟨b, many, _, rfl, _⟩ := h
    rfl
  · obtain ⟨x, y, d, rfl, hx, hy, hd, k⟩ := h
    refine ⟨_, (pss_cons (ps_if (PW.pt (pw_or (pt_cmpR op_isN (pv 1) pe_non (nomark _)) (pw_or1 (pt_cmpR op_isN (pv 0) pe_non (nomark _)))))
 (pss_one (ps_ret (pe_and (pe_cmpR op_isN (pv 1) pe_non (nomark _)) (pe_one (pe_cmpR op_isN (pv 0) pe_non (nomark _))))))
 pss_nil)
 (pss_cons (ps_if (PW.pt (pw_or (pt_val (pe_callB call_isi (by rfl) T.isinstance (by decide +kernel) (pa_cons (pv 1) (pa_cons (pe_bltn (v := .ty "bool") (by rfl) T.bool (by decide +kernel) rfl) pa_nil)))) (pw_or1 (pt_val (pe_callB call_isi (by rfl) T.isinstance (by decide +kernel) (pa_cons (pv 0) (pa_cons (pe_bltn (v := .ty "bool") (by rfl) T.bool (by decide +kernel) rfl) pa_nil)))))))
 (pss_one (ps_ret (pe_and (pe_callB call_isi (by rfl) T.isinstance (by decide +kernel) (pa_cons (pv 1) (pa_cons (pe_bltn (v := .ty "bool") (by rfl) T.bool (by decide +kernel) rfl) pa_nil))) (pe_and (pe_callB call_isi (by rfl) T.isinstance (by decide +kernel) (pa_cons (pv 0) (pa_cons (pe_bltn (v := .ty "bool") (by rfl) T.bool (by decide +kernel) rfl) pa_nil))) (pe_one (pe_cmpR op_eq (pv 0) (pv 1) (nomark _)))))))
 pss_nil)
 (pss_cons (ps_if (PW.pt (pw_or (pt_val (pe_callB call_isiT (by rfl) T.isinstance (by decide +kernel) (pa_cons (pv 1) (pa_cons (pe_tup (pa_cons (pe_bltn (v := .ty "list") (by rfl) T.list (by decide +kernel) rfl) (pa_cons (pe_bltn (v := .ty "tuple") (by rfl) T.tuple (by decide +kernel) rfl) pa_nil))) pa_nil)))) (pw_or1 (pt_val (pe_callB call_isiT (by rfl) T.isinstance (by decide +kernel) (pa_cons (pv 0) (pa_cons (pe_tup (pa_cons (pe_bltn (v := .ty "list") (by rfl) T.list (by decide +kernel) rfl) (pa_cons (pe_bltn (v := .ty "tuple") (by rfl) T.tuple (by decide +kernel) rfl) pa_nil))) pa_nil)))))))
 (pss_cons (ps_if (pt_cmpR op_ne (pe_callB call_isi (by rfl) T.isinstance (by decide +kernel) (pa_cons (pv 1) (pa_cons (pe_bltn (v := .ty "list") (by rfl) T.list (by decide +kernel) rfl) pa_nil))) (pe_callB call_isi (by rfl) T.isinstance (by decide +kernel) (pa_cons (pv 0) (pa_cons (pe_bltn (v := .ty "list") (by rfl) T.list (by decide +kernel) rfl) pa_nil))) (nomark _))
 (pss_one (ps_ret pe_bl))
 pss_nil)
 (pss_cons (ps_if (PW.pt (pw_or (pt_cmpR op_ne (pe_callB call_isi (by rfl) T.isinstance (by decide +kernel) (pa_cons (pv 1) (pa_cons (pe_bltn (v := .ty "tuple") (by rfl) T.tuple (by decide +kernel) rfl) pa_nil))) (pe_callB call_isi (by rfl) T.isinstance (by decide +kernel) (pa_cons (pv 0) (pa_cons (pe_bltn (v := .ty "tuple") (by rfl) T.tuple (by decide +kernel) rfl) pa_nil))) (nomark _)) (pw_or1 (pt_cmpR op_ne (pe_callB call_len_seq (by rfl) T.len PySem.boot_len (pa_cons (pv 0) pa_nil)) (pe_callB call_len_seq (by rfl) T.len PySem.boot_len (pa_cons (pv 1) pa_nil)) (nomark _)))))
 (pss_one (ps_ret pe_bl))
 pss_nil)
 (pss_one (ps_ret (pe_callB (cr_all rfl) (by rfl) T.all (by decide +kernel) (pa_cons (pe_lc (own := [("_law_a", 2), ("_law_b", 3)]) (g := (gTup K 2 (gCons (gName 2) (gCons (gName 3) gNil)))) (tt := tYes) (te := tCall (spSame K n) [] E0 (tCons (tVar 2) (tCons (tVar 3) tNil))) rfl sc_L_same.nd (RZ.pi_zipA (by rfl) T.zip (pa_cons (pv 0) (pa_cons (pv 1) pa_nil))) (blkOk_by (own := [("_law_a", 2), ("_law_b", 3)]) (N := ["_law_found", "_law_due", "_law_a", "_law_b"]) (sc := defScope s_L_same) (by decide +kernel)) (fun _ _ _ _ _ => (pg_tup (by rfl) (pgs_cons (pg_name (i := 2) sc_L_same.nd rfl (Or.inl rfl)) (pgs_cons (pg_name (i := 3) sc_L_same.nd rfl (Or.inl rfl)) pgs_nil)))) (fun _ _ _ _ _ => pts_nil) (fun _ _ _ _ _ => (pe_call G_same r_same rfl T.g_same T.k_same b_same .nil pass0 (pa_cons (pv 2) (pa_cons (pv 3) pa_nil))))) pa_nil))))))
 pss_nil)
 (pss_cons (ps_if (pt_cmpR op_ne (pe_callB call_isi (by rfl) T.isinstance (by decide +kernel) (pa_cons (pv 1) (pa_cons (pe_bltn (v := .ty "int") (by rfl) T.int (by decide +kernel) rfl) pa_nil))) (pe_callB call_isi (by rfl) T.isinstance (by decide +kernel) (pa_cons (pv 0) (pa_cons (pe_bltn (v := .ty "int") (by rfl) T.int (by decide +kernel) rfl) pa_nil))) (nomark _))
 (pss_one (ps_ret pe_bl))
 pss_nil)
 (pss_one (ps_ret (pe_and (pe_cmpR op_eq (pe_callB call_isi (by rfl) T.isinstance (by decide +kernel) (pa_cons (pv 1) (pa_cons (pe_bltn (v := .ty "str") (by rfl) T.str (by decide +kernel) rfl) pa_nil))) (pe_callB call_isi (by rfl) T.isinstance (by decide +kernel) (pa_cons (pv 0) (pa_cons (pe_bltn (v := .ty "str") (by rfl) T.str (by decide +kernel) rfl) pa_nil))) (nomark _)) (pe_one (pe_cmpR op_eq (pv 0) (pv 1) (nomark _)))))))))), ?_⟩
    have k0 := k H (Same.refl H)
    -- if due is None or found is None
    refine ⟨_, rfl, rfl, _, rfl, ?_⟩
    by_cases c0 : d = .none
    · subst c0
      cases hx
      cases hy
      exact ⟨_, rfl, rfl, true, rfl, ⟨_, rfl, rfl, k0⟩⟩
    · have nx : decide (x = V.non) = false := decide_eq_false (fun z => by subst z; cases hx; exact c0 rfl)
      have ny : decide (y = V.non) = false := decide_eq_false (fun z => by subst z; cases hy; exact c0 rfl)
      refine itF ny ?_
      refine ⟨_, rfl, rfl, _, rfl, ?_⟩
      refine itF nx ?_
      -- if isinstance(due, bool) or isinstance(found, bool)
      refine ⟨_, rfl, _, _, _, _, _, rfl, .ty _, dp_ty hy, kit_bool d, _, rfl, ?_⟩
      cases d with
      | none => exact absurd rfl c0
      | bool b =>
        cases hx
        cases hy
        refine ⟨_, rfl, _, _, _, _, _, rfl, .ty _, dp_ty (.bl b), kit_bool (.bool b), _, rfl, ?_⟩
        refine ⟨_, rfl, _, _, _, _, _, rfl, .ty _, dp_ty (.bl b), kit_bool (.bool b), _, rfl, ?_⟩
        refine ⟨_, rfl, _, rfl, rfl, ?_⟩
        have e : decide (V.bl b = V.bl b) = true := decide_eq_true rfl
        rw [e]
        exact k0
      | int i =>
        cases hx
        cases hy
        refine ⟨_, rfl, _, _, _, _, _, rfl, .ty _, dp_ty (.int i), kit_bool (.int i), _, rfl, ?_⟩
        refine ⟨_, rfl, sz2, fun tp ntp => ⟨_, _, _, _, _, _, rfl, upd_same, .cons (.ty _) (.cons (.ty _) .nil), dp_ty (.int i), kit_lt (.int i), _, rfl, ?_⟩⟩
        refine ⟨_, rfl, sz2, fun tq ntq => ⟨_, _, _, _, _, _, rfl, upd_same, .cons (.ty _) (.cons (.ty _) .nil), dp_ty (.int i), kit_lt (.int i), _, rfl, ?_⟩⟩
        have k1 := k _ ((Same.new ntp).trans (Same.new (o := .tup [V.ty "list", V.ty "tuple"]) ntq))
        refine ⟨_, rfl, _, _, _, _, _, rfl, .ty _, dp_ty (.int i), kit_int (.int i), _, rfl, _, _, _, _, _, rfl, .ty _, dp_ty (.int i), kit_int (.int i), rfl, _, rfl, ?_⟩
        refine ⟨_, rfl, _, _, _, _, _, rfl, .ty _, dp_ty (.int i), kit_str (.int i), _, rfl, _, _, _, _, _, rfl, .ty _, dp_ty (.int i), kit_str (.int i), rfl, _, rfl, ?_⟩
        refine ⟨_, rfl, _, rfl, rfl, ?_⟩
        have e : decide (V.int i = V.int i) = true := decide_eq_true rfl
        rw [e]
        exact k1
      | str z =>
        cases hx
        cases hy
        refine ⟨_, rfl, _, _, _, _, _, rfl, .ty _, dp_ty (.str z), kit_bool (.str z), _, rfl, ?_⟩
        refine ⟨_, rfl, sz2, fun tp ntp => ⟨_, _, _, _, _, _, rfl, upd_same, .cons (.ty _) (.cons (.ty _) .nil), dp_ty (.str z), kit_lt (.str z), _, rfl, ?_⟩⟩
        refine ⟨_, rfl, sz2, fun tq ntq => ⟨_, _, _, _, _, _, rfl, upd_same, .cons (.ty _) (.cons (.ty _) .nil), dp_ty (.str z), kit_lt (.str z), _, rfl, ?_⟩⟩
        have k1 := k _ ((Same.new ntp).trans (Same.new (o := .tup [V.ty "list", V.ty "tuple"]) ntq))
        refine ⟨_, rfl, _, _, _, _, _, rfl, .ty _, dp_ty (.str z), kit_int (.str z), _, rfl, _, _, _, _, _, rfl, .ty _, dp_ty (.str z), kit_int (.str z), rfl, _, rfl, ?_⟩
        refine ⟨_, rfl, _, _, _, _, _, rfl, .ty _, dp_ty (.str z), kit_str (.str z), _, rfl, _, _, _, _, _, rfl, .ty _, dp_ty (.str z), kit_str (.str z), rfl, _, rfl, ?_⟩
        refine ⟨_, rfl, _, rfl, rfl, ?_⟩
        have e : decide (V.str z = V.str z) = true := decide_eq_true rfl
        rw [e]
        exact k1
      | list ds =>
        cases hx with
        | lst sx ax =>
        rename_i xa xs
        cases hy with
        | lst sy ay =>
        rename_i ya ys
        cases n with
        | zero => exact absurd hd (by unfold okD; exact Bool.false_ne_true)
        | succ n =>
        have hd' : (decide (ds.length ≤ 1000) && ds.all (okD n)) = true := by unfold okD at hd; exact hd
        rw [Bool.and_eq_true, decide_eq_true_eq] at hd'
        obtain ⟨hl, hall⟩ := hd'
        have dx : Dp K H (.ref xa) (.list ds) := .lst sx ax
        have dy : Dp K H (.ref ya) (.list ds) := .lst sy ay
        refine ⟨_, rfl, _, _, _, _, _, rfl, .ty _, dp_ty dx, kit_bool (.list ds), _, rfl, ?_⟩
        refine ⟨_, rfl, sz2, fun tp ntp => ⟨_, _, _, _, _, _, rfl, upd_same, .cons (.ty _) (.cons (.ty _) .nil), dp_ty (dp_mono (Same.new ntp) _ _ dy), kit_lt (.list ds), _, rfl, ?_⟩⟩
        have s1 : Same H (upd H tp (.tup [V.ty "list", V.ty "tuple"])) := Same.new ntp
        have dx1 := dp_mono s1 _ _ dx
        have dy1 := dp_mono s1 _ _ dy
        refine ⟨_, rfl, _, _, _, _, _, rfl, .ty _, dp_ty dy1, kit_list (.list ds), _, rfl, _, _, _, _, _, rfl, .ty _, dp_ty dx1, kit_list (.list ds), rfl, _, rfl, ?_⟩
        refine ⟨_, rfl, _, _, _, _, _, rfl, .ty _, dp_ty dy1, kit_tup (.list ds), _, rfl, _, _, _, _, _, rfl, .ty _, dp_ty dx1, kit_tup (.list ds), rfl, _, rfl, ?_⟩
        refine ⟨_, rfl, xa, xs, rfl, .inl (Evl.ex_l s1 sx), _, rfl, ya, ys, rfl, .inl (Evl.ex_l s1 sy), rfl, _, rfl, ?_⟩
        have el : decide (V.int (xs.length : Int) = V.int (ys.length : Int)) = true := decide_eq_true (by rw [dpAll_len ax, dpAll_len ay])
        rw [el]
        have hmin : ds.length = min xs.length ys.length := by rw [dpAll_len ax, dpAll_len ay, Nat.min_self]
        refine ⟨_, rfl, _, rfl, xa, ya, xs, ys, rfl, .inl ⟨Evl.ex_l s1 sx, Evl.ex_l s1 sy, ?_⟩⟩
        intro D nD
        refine same_all (K := K) (m := n) (fun u v => ⟨rfl, rfl, rfl⟩) (walk_zip hmin) (fun H' e => ⟨Evl.ex_l (s1.trans e) sx, Evl.ex_l (s1.trans e) sy⟩) nD (dpAll_mono s1 _ _ ax) (dpAll_mono s1 _ _ ay) hl hall fun H' s2 hD => ?_
        refine ⟨D, _, rfl, SqL.of hD, ?_⟩
        have ea : (List.replicate ds.length true).all id = true := by simp
        rw [ea]
        exact k H' (s1.trans s2)
      | tuple ds =>
        cases hx with
        | tup sx ax =>
        rename_i xa xs
        cases hy with
        | tup sy ay =>
        rename_i ya ys
        cases n with
        | zero => exact absurd hd (by unfold okD; exact Bool.false_ne_true)
        | succ n =>
        have hd' : (decide (ds.length ≤ 1000) && ds.all (okD n)) = true := by unfold okD at hd; exact hd
        rw [Bool.and_eq_true, decide_eq_true_eq] at hd'
        obtain ⟨hl, hall⟩ := hd'
        have dx : Dp K H (.ref xa) (.tuple ds) := .tup sx ax
        have dy : Dp K H (.ref ya) (.tuple ds) := .tup sy ay
        refine ⟨_, rfl, _, _, _, _, _, rfl, .ty _, dp_ty dx, kit_bool (.tuple ds), _, rfl, ?_⟩
        refine ⟨_, rfl, sz2, fun tp ntp => ⟨_, _, _, _, _, _, rfl, upd_same, .cons (.ty _) (.cons (.ty _) .nil), dp_ty (dp_mono (Same.new ntp) _ _ dy), kit_lt (.tuple ds), _, rfl, ?_⟩⟩
        have s1 : Same H (upd H tp (.tup [V.ty "list", V.ty "tuple"])) := Same.new ntp
        have dx1 := dp_mono s1 _ _ dx
        have dy1 := dp_mono s1 _ _ dy
        refine ⟨_, rfl, _, _, _, _, _, rfl, .ty _, dp_ty dy1, kit_list (.tuple ds), _, rfl, _, _, _, _, _, rfl, .ty _, dp_ty dx1, kit_list (.tuple ds), rfl, _, rfl, ?_⟩
        refine ⟨_, rfl, _, _, _, _, _, rfl, .ty _, dp_ty dy1, kit_tup (.tuple ds), _, rfl, _, _, _, _, _, rfl, .ty _, dp_ty dx1, kit_tup (.tuple ds), rfl, _, rfl, ?_⟩
        refine ⟨_, rfl, xa, xs, rfl, .inr (Evl.ex_t s1 sx), _, rfl, ya, ys, rfl, .inr (Evl.ex_t s1 sy), rfl, _, rfl, ?_⟩
        have el : decide (V.int (xs.length : Int) = V.int (ys.length : Int)) = true := decide_eq_true (by rw [dpAll_len ax, dpAll_len ay])
        rw [el]
        have hmin : ds.length = min xs.length ys.length := by rw [dpAll_len ax, dpAll_len ay, Nat.min_self]
        refine ⟨_, rfl, _, rfl, xa, ya, xs, ys, rfl, .inr ⟨Evl.ex_t s1 sx, Evl.ex_t s1 sy, ?_⟩⟩
        intro D nD
        refine same_all (K := K) (m := n) (fun u v => ⟨rfl, rfl, rfl⟩) (walk_zipT hmin) (fun H' e => ⟨Evl.ex_t (s1.trans e) sx, Evl.ex_t (s1.trans e) sy⟩) nD (dpAll_mono s1 _ _ ax) (dpAll_mono s1 _ _ ay) hl hall fun H' s2 hD => ?_
        refine ⟨D, _, rfl, SqL.of hD, ?_⟩
        have ea : (List.replicate ds.length true).all id = true := by simp
        rw [ea]
        exact k H' (s1.trans s2)
      | dict _ => cases hx
end
end Mine
namespace Mine
open PySem PySem.Spec PyProof.Rows L2
theorem cut_ints {ns : List Int} {lo hi : Option Int} : ∃ ms : List Int, cutV (ns.map V.int) lo hi = ms.map V.int := by
  refine ⟨(ns.drop (HT.sIx (ns.map V.int).length 0 lo)).take (HT.sIx (ns.map V.int).length (ns.map V.int).length hi - HT.sIx (ns.map V.int).length 0 lo), ?_⟩
  unfold cutV
  rw [← List.map_drop, ← List.map_take]
theorem sqL_upd {K : PySem.W.Frag} {H : Hp} {b t : Addr} {o : HO} {xs : List V} (ne : t ≠ b) (h : SqL K H t xs) : SqL K (upd H b o) t xs := by
  rcases h with (h | ⟨ob, h⟩) | h
  · exact .inl (.inl (by rw [upd_ne ne]; exact h))
  · exact .inl (.inr ⟨ob, by rw [upd_ne ne]; exact h⟩)
  · exact .inr h
def spBag (K : PySem.W.Frag) : Sp := fun vs H Q _ => ∃ (a : Addr) (ns : List Int), vs = [.ref a] ∧ SqL K H a (ns.map V.int) ∧ ∀ (b : Addr) (H' : Hp), H b = none → Same H H' → Bag H' b → Q (.ref b) H'
def spOf (K : PySem.W.Frag) : Sp := fun vs H Q _ => ∃ (b t : Addr) (xs : List V), vs = [.ref b, .ref t] ∧ Bag H b ∧ SqL K H t xs ∧ t ≠ b ∧ 0 < xs.length ∧ xs.length < 1000 ∧
  ∀ (j : Nat) (v : V) (o : HO), xs[j]? = some v → Bag (upd H b o) b → Q v (upd H b o)
structure TxtP (K : PySem.W.Frag) (mg : Str → Option Value) (fP : Addr) : Prop where
  len : mg "len" = none
  g_pull : mg "_law_pull" = some (.ref fP)
  k_pull : PySem.W.keepIn K (.ref fP) = true
section
variable {P : Program} {w : World} {K : PySem.W.Frag} {mg : Str → Option Value} {base : Heap}
theorem ok_bag {f : Addr} {fd : FuncData} (F : Fun K "_law_bag" "_law_bag" s_L_bag f fd) (T : TxtL mg) : FnOk P w K mg base CX0 1 f fd ["_law_script"] (spBag K) := by
  refine F.ok sc_L_bag (fun vs H Q E h => ?_) (fun cdv A outer s H vs Q E hr h => ?_)
  · obtain ⟨b, many, rfl, _⟩ := h
    rfl
  · obtain ⟨a, ns, rfl, ha, k⟩ := h
    refine ⟨_, (pss_one (ps_ret (pe_lst (pa_cons (pe_callTy call_list_of (by rfl) T.list (by decide +kernel) (pa_cons (pe_slice sl_list (pv 0) po_none (po_some pe_int)) pa_nil)) (pa_cons pe_int (pa_cons pe_int (pa_cons pe_int (pa_cons pe_int pa_nil)))))))), ?_⟩
    obtain ⟨ms, hms⟩ := cut_ints (ns := ns) (lo := none) (hi := some 63)
    refine ⟨_, rfl, _, rfl, a, _, rfl, ha, fun p np => ?_⟩
    refine ⟨p, _, rfl, .inl (SqL.of upd_same), fun l nl => ?_⟩
    refine ⟨(by show 5 ≤ sizeLine; decide), fun b nb => ?_⟩
    have np' : H p = none := np
    have s1 : Same H (upd H p (.lst (cutV (ns.map V.int) none (some 63)))) := Same.new np
    have s2 := Same.new (o := .lst (cutV (ns.map V.int) none (some 63))) nl
    refine k b _ (s1.free (s2.free nb)) ((s1.trans s2).trans (Same.new nb)) ⟨l, 0, 0, 12004, 0, upd_same, ⟨⟨ms, ?_⟩, Int.le_refl 0, Int.le_refl 0, by decide, by decide⟩, fun z => ?_⟩
    · rw [upd_ne (fun z => by rw [← z, upd_same] at nb; cases nb), upd_same, hms]
    · rw [← z, upd_same] at nb
      cases nb
theorem ok_of {f fP : Addr} {fd fdP : FuncData} (F : Fun K "_law_of" "_law_of" s_L_of f fd) (T : TxtP K mg fP) (G_pull : FnOk P w K mg base CX0 1 fP fdP ["_law_bag_here", "_law_many"] spPull) (b_pull : Binds K fdP ["_law_bag_here", "_law_many"] []) :
    FnOk P w K mg base CX0 2 f fd ["_law_bag_here", "_law_things"] (spOf K) := by
  refine F.ok sc_L_of (fun vs H Q E h => ?_) (fun cdv A outer s H vs Q E r_pull h => ?_)
  · obtain ⟨b, many, _, rfl, _⟩ := h
    rfl
  · obtain ⟨b, t, xs, rfl, hb, ht, ne, l0, l1, k⟩ := h
    refine ⟨_, (pss_one (ps_ret (pe_ix ix_list (pv 1) (pe_call G_pull r_pull rfl T.g_pull T.k_pull b_pull .nil pass0 (pa_cons (pv 0) (pa_cons (pe_callB call_len_seq (by rfl) T.len PySem.boot_len (pa_cons (pv 1) pa_nil)) pa_nil))) (fun _ _ => rfl)))), ?_⟩
    refine ⟨_, rfl, _, rfl, _, rfl, t, xs, rfl, .inl ht, b, _, rfl, hb, by omega, by omega, fun d o d0 d1 hb' => ?_⟩
    have hlt : d.toNat < xs.length := by omega
    refine ⟨t, xs, d, xs[d.toNat], rfl, rfl, sqL_upd ne ht, ?_, k d.toNat _ o (by simp [hlt]) hb'⟩
    unfold atI ixN
    rw [if_pos d0, if_pos d1]
    simp [hlt]
end
end Mine
namespace Mine
open PySem PySem.Spec PyProof.Rows L2
/-! ### clauses «except t as n», t any expression whose match is known -/
theorem fly_ext {B h h' : Heap} {l : List Env} {a : Addr} {Z : Obj → Prop} (k : ∀ b o, h.get? b = some o → h'.get? b = some o) (f : HandSPX.FlyingZ B l a Z h) : HandSPX.FlyingZ B l a Z h' := by
  obtain ⟨f1, f2, f3, oe, vs, T, oT, ts, h1, h2, h3, h4, h5, h6, h7, h8⟩ := f
  exact ⟨fun b o e => k b o (f1 b o e), f2, f3.of_keeps fun b o e _ => ⟨o, k b o e, rfl⟩, oe, vs, T, oT, ts, k _ _ h1, h2, h3, h4, h5, h6, k _ _ h7, h8⟩
theorem slots_ext {h h' : Heap} (k : ∀ b o, h.get? b = some o → h'.get? b = some o) : h.UpToSlots h' := fun b o e _ => ⟨o.slots, k b o e⟩
/-- the test of a clause: t is evaluated while a is handled, and its match with a is m of a's class -/
def ExcTest (X : Cx) (t : Expr) (m : Value → Option Bool) : Prop :=
  ∀ (a : Addr) (pn pins : List (Addr × Obj)) (s : Shared) (σ : L2.St) (H : Hp) (cls : Value) (b : Bool) (Q : Bool → Shared → Prop) (E : Value → Shared → Prop), Inv (X.suite a pn) pins σ H s →
    PySem.W.Looks (model X.prog X.w) s.heap (typeOf (.ref a)) cls → m cls = some b → (∀ h', (∀ q o, s.heap.get? q = some o → h'.get? q = some o) → Q b { s with heap := h' }) →
    wpAny (model X.prog X.w) (X.A.mark (some (.ref a))) (eval t X.env) (fun c s₁ => wpAny (model X.prog X.w) (X.A.mark (some (.ref a))) (excMatches (.ref a) c) Q E s₁) E s
theorem name_in {X : Cx} {x : Str} {c : Value} {np : Pos} (n : Names X x c) {a : Addr} {pn pins : List (Addr × Obj)} {s : Shared} {σ : L2.St} {H : Hp} (I : Inv (X.suite a pn) pins σ H s) {Q : Value → Shared → Prop} {E : Value → Shared → Prop} (q : Q c s) :
    wpAny (model X.prog X.w) (X.A.mark (some (.ref a))) (eval (.Name x np) X.env) Q E s := by
  obtain ⟨h1, h2, h3⟩ := n
  rcases h3 with h3 | ⟨h3, h4, h5⟩
  · exact ld_glob I h1 h3 q h2
  · exact ld_blt I h1 h3 h4 q h5 h2
theorem test1 {X : Cx} {x : Str} {c : Value} {np : Pos} (n : Names X x c) : ExcTest X (.Name x np) (fun cls => PySem.W.exmOne X.K cls c) := by
  intro a pn pins s σ H cls b Q E I L e q
  exact name_in n I ((PySem.W.exm_one I.kIn L e).here (q s.heap fun _ _ z => z))
theorem test2 {X : Cx} {x1 x2 : Str} {c1 c2 : Value} {p1 p2 p3 : Pos} {kk : Nat} (n1 : Names X x1 c1) (n2 : Names X x2 c2) : ExcTest X (.Tuple [.Name x1 p1, .Name x2 p2] kk p3) (fun cls => PySem.W.exmAny X.K cls [c1, c2]) := by
  intro a pn pins s σ H cls b Q E I L e q
  refine wpAny_Tuple (wpAny_items_cons (name_in n1 I (wpAny_items_cons (name_in n2 I (wpAny_items_nil ⟨by size_fits, ?_⟩)))))
  have kp : ∀ y o, s.heap.get? y = some o → (s.heap.push { cls := .type "tuple", data := .seq [c1, c2].toArray }).get? y = some o := fun _ _ z => Heap.get?_push_of_some _ z
  exact (PySem.W.exm_tup2 (I.kIn.keeps kp) (L.keeps kp) (Heap.get?_push_size s.heap rfl) e).here (q _ kp)
/-- what a clause asks: the match, its name's slot, its suite -/
structure Clause where
  m : Value → Option Bool
  i : Nat
  ts : Addr → Value → Option Addr → TS
def unname (D : Ends) (i : Nat) : Ends := ⟨fun σ H => D.nx (σ.set i none) H, D.rt, fun σ H => D.bk (σ.set i none) H, fun σ H => D.ct (σ.set i none) H⟩
def wClauses (Wout : WX) (D : Ends) : List Clause → WX
  | [] => Wout
  | c :: r => fun cls d σ H => ∃ b, c.m cls = some b ∧ (b = true → ∀ a, H a = none → c.ts a cls d (unname D c.i) (σ.set c.i (some (.ref a))) H) ∧ (b = false → wClauses Wout D r cls d σ H)
inductive ClausesOk (X : Cx) : List ExceptHandler → List Clause → Prop
  | nil : ClausesOk X [] []
  | cons {t : Expr} {n : Str} {c : Clause} {b₀ : Stmt} {suite : List Stmt} {hp : Pos} {hds : List ExceptHandler} {l : List Clause} (ht : ExcTest X t c.m) (hi : X.N[c.i]? = some n) (hl : X.env.kindOf n = some .local)
      (hsu : ∀ (a : Addr) (oe : Obj) (cls : Value) (d : Option Addr) (pn : List (Addr × Obj)), Zc cls d oe → (∃ vs, oe.data = .fields vs) → PSs (X.suite a ((a, oe) :: pn)) (b₀ :: suite) (c.ts a cls d)) (r : ClausesOk X hds l) :
      ClausesOk X (.ExceptHandler (some t) (some n) (b₀ :: suite) hp :: hds) (c :: l)
section
variable {X : Cx} {pins : List (Addr × Obj)} {Wout : WX} {D : Ends}
/-- a thrown exception on the ground at h meets the clauses -/
theorem meet_clauses (hs : X.stack = X.env :: X.outer) (hf : X.env.frame = some X.env.locals) (hN : X.N.Nodup) (tk : Takes X Wout) {a : Addr} {B : Heap} {sI : Shared} {σ : L2.St} {H : Hp} {cls : Value} {d : Option Addr}
    (J : Inv X pins σ H sI) (nb : ∀ b o, sI.heap.get? b = some o → b ∉ frs X.stack → B.get? b = some o) (na : H a = none) {hds : List ExceptHandler} {l : List Clause} (ok : ClausesOk X hds l) :
    ∀ (s : Shared), HandSPX.FlyingZ B (X.env :: X.outer) a (Zc cls d) s.heap → sI.heap.UpToSlots s.heap → s.os = sI.os → AllBare s.gens → wClauses Wout D l cls d σ H →
      wpAny (model X.prog X.w) X.A (handleBy (.ref a) X.env hds) (SP X pins D) X.xe s := by
  induction ok with
  | nil =>
    intro s fl up os ag hw
    refine wpAny_handleBy_nil ?_
    obtain ⟨_, _, _, oe, vs, T, oT, ts', he, _, hd, h1, _⟩ := id fl
    have go : wpAny (model X.prog X.w) X.A (setFlight (.ref a) X.env.frame) (fun _ s4 => wpAny (model X.prog X.w) X.A (throw (.ref a) : Sem Flow) (SP X pins D) X.xe s4) X.xe s := by
      rw [hf]
      exact HandSPX.setFlight_upZ fl fun h4 hh4 up4 => wpAny_throw (tk _ _ ⟨a, B, sI, pins, σ, H, cls, d, rfl, J, nb, up.trans up4, .inr (.inr (by rw [hs]; exact hh4)), na, os, ag, hw⟩)
    unfold PySem.passOn
    refine wpAny_bind (wpAny_field he hd h1 ?_)
    rw [if_neg (show ¬ ((Value.ref T == Value.none) = true) by simp)]
    first
      | exact wpAny_bind (wpAny_pure (wpAny_bind go))
      | exact wpAny_bind go
  | @cons t n c b₀ suite hp hds' l' ht hi hl hsu _ ih =>
    intro s fl up os ag hw
    obtain ⟨b, hb, yes, no⟩ := hw
    have J1 : Inv X pins σ H s := J.landed nb fl.1 up os ag
    have away : ∀ {h : Heap} {o : Obj} {vs : Array Value}, h.FunFrames B (X.env :: X.outer) → h.get? a = some o → o.data = .fields vs → a ≠ X.env.locals ∧ a ∉ X.fs := by
      intro h o vs ff e dd
      have nm : a ∉ frs (X.env :: X.outer) := by
        intro hm
        obtain ⟨_, o', e', hnf⟩ := ff.mem hm
        rw [e] at e'
        cases e'
        exact hnf _ dd
      refine ⟨fun z => nm (List.mem_filterMap.mpr ⟨X.env, List.mem_cons_self, by rw [hf, z]⟩), fun hm => ?_⟩
      obtain ⟨e2, he2, q⟩ := List.mem_filterMap.mp hm
      exact nm (List.mem_filterMap.mpr ⟨e2, List.mem_cons_of_mem _ he2, q⟩)
    obtain ⟨oe, vs, he, hz, hd⟩ := fl.there
    obtain ⟨nL, nF⟩ := away fl.2.2.1 he hd
    have S1 := J1.suite he hd na nL nF
    refine wpAny_handleBy_cons (codeAny_handlers_test ?_) (fun q => nomatch q)
    have LT : PySem.W.Looks (model X.prog X.w) s.heap (typeOf (.ref a)) cls := fun A Q E s' k q => wpAny_typeOf_ref (k _ _ he) (by rw [hz.1]; exact q)
    refine ht a _ [] s σ H cls b _ _ S1 LT hb fun h2 k2 => ?_
    have fl2 := fly_ext k2 fl
    have up2 : sI.heap.UpToSlots h2 := up.trans (slots_ext k2)
    cases b with
    | false => exact ih { s with heap := h2 } fl2 up2 os ag (no rfl)
    | true =>
      refine codeAny_handlers_suite_as (HandSPX.lands_againZ fl2 fun h4 fl4 up4 => ?_)
      have J4 : Inv X pins σ H { s with heap := h4 } := J.landed nb fl4.1 (up2.trans up4) os ag
      obtain ⟨oe4, vs4, he4, hz4, hd4⟩ := fl4.there
      have S4 := J4.suite he4 hd4 na nL nF
      refine store_ok (X := X.suite a ((a, oe4) :: (X.pn ++ pins))) (v := .ref a) S4 hN hi (.inl hl) rfl (fun s5 S5 => ?_) (.inr hl)
      refine wpAny_mono ((hsu a oe4 cls d (X.pn ++ pins) hz4 ⟨_, hd4⟩).run [] s5 _ H _ S5 (yes rfl a na)) (fun f s6 q6 => ?_) (fun _ _ z => z.elim)
      have back : ∀ {σ6 : L2.St} {H6 : Hp} {R : Shared → Prop}, Inv (X.suite a ((a, oe4) :: (X.pn ++ pins))) [] σ6 H6 s6 → (∀ s7, Inv X pins (σ6.set c.i none) H6 s7 → R s7) →
          wpAny (model X.prog X.w) X.A (do bindName X.env n .none; unbindBehindTheSuite X.env n hp) (fun _ s7 => R s7) X.xe s6 := fun S6 r => gone_ok (S6.unsuite J.ok) hN hi hl r
      cases f with
      | next =>
        obtain ⟨σ6, H6, S6, r6⟩ := q6
        exact back S6 fun s7 J7 => ⟨_, _, J7, r6⟩
      | brk =>
        obtain ⟨σ6, H6, S6, r6⟩ := q6
        exact back S6 fun s7 J7 => ⟨_, _, J7, r6⟩
      | cont =>
        obtain ⟨σ6, H6, S6, r6⟩ := q6
        exact back S6 fun s7 J7 => ⟨_, _, J7, r6⟩
      | ret u =>
        obtain ⟨v6, σ6, H6, S6, rv, r6⟩ := q6
        exact back S6 fun s7 J7 => ⟨_, _, _, J7, rv, r6⟩
/-- try: body, several clauses «except t as n: suite» -/
theorem ps_clauses {body : List Stmt} {h₀ : ExceptHandler} {hds : List ExceptHandler} {l : List Clause} {pos : Pos} {tb : WX → TS} (hs : X.stack = X.env :: X.outer) (hf : X.env.frame = some X.env.locals) (hN : X.N.Nodup) (tk : Takes X Wout)
    (hb : ∀ (W : WX) (pn : List (Addr × Obj)) (xe : Value → Shared → Prop), Takes (X.tr pn xe) W → PassesOwn (model X.prog X.w) X.A X.env xe → PSs (X.tr pn xe) body (tb W)) (hh : ClausesOk X (h₀ :: hds) l) :
    PS X (.Try body (h₀ :: hds) [] [] pos) (fun D σ H => tb (wClauses Wout D l) D σ H) := by
  refine ⟨fun pins s σ H D I h => ?_⟩
  have ok := I.ok
  have fr : X.A.frames = some (X.env :: X.outer) := by rw [ok.frames, hs]
  refine wpAny_Try_except ?_
  refine wpAny_mono ((hb (wClauses Wout D l) (X.pn ++ pins) _ (fun u s' xx => ?_) PassesOwn.looking).run [] s σ H D (I.toTry _) h) (fun f s1 q => ?_) (fun e s1 he => he)
  · obtain ⟨a, B, sI, pins', σ', H', cls, d, rfl, J', nb, up, sky, na, os, ag, hw⟩ := xx
    have sky' : Sky B (X.env :: X.outer) a (Zc cls d) X.env.locals s'.heap := by rw [← hs]; exact sky
    exact Sky.land Zc.steady fr hf sky' fun h3 fl3 up3 => meet_clauses hs hf hN tk (J'.ofTry ok) nb na hh { s' with heap := h3 } fl3 (up.trans up3) os ag hw
  · cases f with
    | next =>
      obtain ⟨σ1, H1, J1, r⟩ := q
      exact wpAny_execs_nil ⟨σ1, H1, J1.ofTry ok, r⟩
    | brk =>
      obtain ⟨σ1, H1, J1, r⟩ := q
      exact ⟨σ1, H1, J1.ofTry ok, r⟩
    | cont =>
      obtain ⟨σ1, H1, J1, r⟩ := q
      exact ⟨σ1, H1, J1.ofTry ok, r⟩
    | ret u =>
      obtain ⟨v1, σ1, H1, J1, rv, r⟩ := q
      exact ⟨v1, σ1, H1, J1.ofTry ok, rv, r⟩
end
end Mine
namespace Mine
open PySem PySem.Spec PyProof.Rows L2
/-! ### a field of the handled exception; a def that gets it as an argument -/
def tXg (K : PySem.W.Frag) (a : Addr) (cls : Value) (d : Option Addr) (f : Str) (te : TE) : TE := fun σ H Q => te σ H fun x H1 => x = .ref a ∧ ∃ (C dd : Addr) (fs : List (Str × V)) (v : V),
  cls = .ref C ∧ XfC K C ∧ PySem.W.findIn K (.ref C) f = some none ∧ d = some dd ∧ H1 dd = some (.xd fs) ∧ fs.lookup f = some v ∧ Q v H1
theorem pe_xg {X : Cx} {p : Addr × Obj} {cls : Value} {d : Option Addr} {e : Expr} {te : TE} {pos : Pos} {n : Str} (hp : p ∈ X.pn) (hz : Zc cls d p.2) (hf : ∃ vs, p.2.data = .fields vs) (he : PE X e te)
    (hb : attributeBase e n X.env (eval e X.env) = eval e X.env := by rfl) : PE X (.Attribute e n pos) (tXg X.K p.1 cls d n te) := by
  refine ⟨fun pins s σ H Q I h => ?_⟩
  refine attr_of hb (thn (he.run pins s σ H _ I h) fun u s1 hh => ?_)
  obtain ⟨x, H1, I1, rx, rfl, C, dd, fs, v, rfl, T, hno, rfl, ea, l, q⟩ := hh
  obtain rfl : u = Value.ref p.1 := rx
  have P1 := (I1.pin p (List.mem_append_left _ hp)).1
  obtain ⟨vs, hd⟩ := hf
  obtain ⟨mA, hns, hr⟩ := (show ObjOk X.prog X.w H1 s1.heap dd (.xd fs) from I1.hok dd _ ea)
  obtain ⟨od, ho, hl⟩ := lookIn_ns hns
  obtain ⟨u, hu, ru⟩ := RelO.some_of (v := v) (o := mA n) (by rw [← l]; exact hr n)
  have J : PySem.W.InstAt s1.heap p.1 p.2 C (some od) := ⟨P1, hz.1, by unfold PySem.W.notCls; rw [hd] <;> rfl, by rw [hz.2]; exact ho⟩
  exact HandSPX.exc_get I1.kIn J T.ga T.gg T.exC (PySem.W.findObj_own T.hdC hno rfl (by rw [hl, hu])) (handed_of ru) ⟨v, H1, I1.tok _, ru, q⟩
/-- what a def promises that is called while the exception at a (its class cls, its dict d) is handled -/
abbrev SpE := Addr → Value → Option Addr → List V → Hp → VK → Prop
structure FnE (P : Program) (w : World) (K : PySem.W.Frag) (mg : Str → Option Value) (base : Heap) (k : Nat) (f : Addr) (fd : FuncData) (ps : List Str) (sp : SpE) : Prop where
  len : ∀ a cls d vs H Q, sp a cls d vs H Q → vs.length = ps.length
  run : ∀ (A : Around) (outer : List Env) (s : Shared) (H : Hp) (args : Args) (us : List Value) (vs : List V) (Q : VK) (p : Addr × Obj) (cls : Value) (d : Option Addr), L2H.RoomH k A → L2H.PinOk outer H s p → Zc cls d p.2 → (∃ ws, p.2.data = .fields ws) →
    Env0 P w K mg base A outer s H → BindsTo s fd args (ps.zip us) → Vals vs us → sp p.1 cls d vs H Q → codeAny (model P w) A (.call (.ref f) args) (CR CX0 outer P w H s Q E0) s
section
variable {P : Program} {w : World} {K : PySem.W.Frag} {mg : Str → Option Value} {base : Heap}
theorem Fun.okE {x qual : Str} {st : Stmt} {f : Addr} {fd : FuncData} {N ps : List Str} {k : Nat} {sp : SpE} (F : Fun K x qual st f fd) (S : FnScope N ps (defScope st)) (len : ∀ a cls d vs H Q, sp a cls d vs H Q → vs.length = ps.length)
    (hbody : ∀ (cdv : Value) (A : Around) (outer : List Env) (s : Shared) (H : Hp) (vs : List V) (Q : VK) (p : Addr × Obj) (cls : Value) (d : Option Addr), L2H.RoomH k (A.deeper (envOfC qual (defScope st) s.heap.objs.size f cdv)) → Zc cls d p.2 → (∃ ws, p.2.data = .fields ws) →
      sp p.1 cls d vs H Q → ∃ t, PSs (L2H.cxH CX0 P w K mg base N qual (defScope st) f cdv A outer s H E0 p) (defBody st) t ∧ t { nx := fun _ H' => Q .non H', rt := Q } (L2.start N vs) H) : FnE P w K mg base (k + 1) f fd ps sp := by
  obtain ⟨oc, od, kV, doc, pm, an, cdv, ct, osl, rfl, lk, hcd⟩ := F.ex
  refine ⟨len, ?_⟩
  intro A outer s H args us vs Q p cls d hr hpin hz hf e0 hb r hsp
  have hl := len _ _ _ _ _ _ hsp
  have keeps := fun b o e => (e0.bs b o e).1
  have KX : K.In s.heap := e0.mod.kin.keeps keeps
  have kinds : ∀ y ∈ ps.zip us, (defScope st).names.lookup y.1 = some .local ∨ ((defScope st).names.lookup y.1 = some .cell ∧ ((cellsFrom (s.heap.objs.size + 1) (defScope st).names []).lookup y.1).isSome = true) := by
    rintro ⟨n, v⟩ hy
    rcases S.par n (List.of_mem_zip hy).1 with q | q
    · exact .inl q
    · exact .inr ⟨q, PySem.W.cellsFrom_some _ _ _ (.inl q)⟩
  refine codeAny_call_function hr.depth (KX _ _ lk) rfl S.co S.gen rfl (PySem.W.codeRec_of KX hcd) (hb _ _ _ _ (wpAny_newFunctionEnv_cells S.kind kinds fun env he s1 x => ?_))
  subst he
  refine ⟨(e0.mod.nolimit.keeps keeps).keeps x.toInCall.keep, codeAny_func ?_⟩
  obtain ⟨t, ht, hq⟩ := hbody cdv A outer s H vs Q p cls d (hr.deeper _) hz hf hsp
  have I : Inv (L2H.cxH CX0 P w K mg base N qual (defScope st) f cdv A outer s H E0 p) [] (L2.start N vs) H s1 := L2H.inv_startH S hpin e0 hl r x
  refine wpAny_mono (ht.run [] s1 _ H _ I hq) (fun fl s' hs => ?_) fun e s' hs => hs
  cases fl with
  | ret u =>
    obtain ⟨v, σ', H', J, rv, q⟩ := hs
    exact ⟨v, H', J.os, J.bare, J.base, J.hok, rv, q⟩
  | next =>
    obtain ⟨σ', H', J, q⟩ := hs
    exact ⟨V.non, H', J.os, J.bare, J.base, J.hok, rfl, q⟩
  | brk =>
    obtain ⟨_, _, _, q⟩ := hs
    exact q.elim
  | cont =>
    obtain ⟨_, _, _, q⟩ := hs
    exact q.elim
end
/-- f(e), while an exception is handled that f gets to know -/
def tCallE (sp : SpE) (a : Addr) (cls : Value) (d : Option Addr) (t : TA) : TE := fun σ H Q => t σ H fun vs H1 => sp a cls d vs H1 Q
theorem pe_callE {X : Cx} {k : Nat} {f : Addr} {fd : FuncData} {ps : List Str} {sp : SpE} {x : Str} {q pos : Pos} {e : Expr} {es : List Expr} {t : TA} {p : Addr × Obj} {cls : Value} {d : Option Addr} (F : FnE X.prog X.w X.K X.mg X.base k f fd ps sp) (hr : L2H.RoomH k X.A)
    (hp : p ∈ X.pn) (hz : Zc cls d p.2) (hf : ∃ ws, p.2.data = .fields ws) (hg : Gl X x) (hm : X.mg x = some (.ref f)) (hk : PySem.W.keepIn X.K (.ref f) = true) (hb : Binds X.K fd ps []) (ha : PA X (e :: es) t)
    (hdb : (x == ("__debug__" : Str)) = false := by decide) (he : starEach (e :: es) X.env = (false, eval e X.env) :: starEach es X.env := by rfl) (hpl : (backTo pos (starEach es X.env)).any (·.1) = false := by rfl) :
    PE X (.Call (.Name x q) (e :: es) [] pos) (tCallE sp p.1 cls d t) := by
  refine ⟨fun pins s σ H Q I h => ?_⟩
  refine wpAny_Call_Name_kw (ld_glob I hg hm ?_ hdb)
  refine PySem.W.callWith_K (h₀ := X.base) I.ok.mod.kin hk (thn (ha.run pos pins s σ H _ I h) fun us s1 ⟨vs, H1, I1, r, q1⟩ => ⟨I1.kIn, ?_⟩) he hpl
  have hl : us.length = ps.length := by rw [← r.length]; exact F.len _ _ _ _ _ _ q1
  have b := hb s1 us I1.kIn (by rw [List.append_nil]; exact hl)
  rw [List.append_nil] at b
  obtain ⟨p1, p2, p3, p4, p5⟩ := I1.pin p (List.mem_append_left _ hp)
  have hpin : L2H.PinOk X.stack H1 s1 p := ⟨p1, p2, fun hm => (List.mem_cons.mp (I1.stkSub p.1 hm)).elim p3 p4, p5⟩
  refine wpAny_call (codeAny_mono (F.run X.A X.stack s1 H1 ⟨us, []⟩ us vs Q p cls d hr hpin hz hf I1.env0 b r q1) fun rr s' hq => ?_)
  cases rr with
  | error er => exact (show False from hq).elim
  | ok fl =>
    cases fl with
    | ret u => exact I1.after hq
    | next => exact (show False from hq).elim
    | brk => exact (show False from hq).elim
    | cont => exact (show False from hq).elim
end Mine
namespace Mine
open PySem PySem.Spec PyProof.Rows L2
/-! ### in, not in: a tuple of data -/
section
variable {X : Cx}
def rInT (K : PySem.W.Frag) (neg : Bool) : R2 := fun x y H Q => ∃ d ds, Dp K H x d ∧ Dp K H y (.tuple ds) ∧ SeqAt.shaped d = true ∧ SeqAt.shaped (.tuple ds) = true ∧ Q (.bl (if neg then !(ds.any fun z => PyData.eqv z d) else ds.any fun z => PyData.eqv z d)) H
theorem room_T {A : Around} {ds : List PyData} {d : PyData} (sd : SeqAt.shaped d = true) (hu : A.units + 65 < cLine) : A.units + 1 + min (PyData.depthAll ds) d.depth < cLine := by
  have h1 := SeqAt.depth_of_shaped sd
  have h2 : min (PyData.depthAll ds) d.depth ≤ d.depth := Nat.min_le_right _ _
  omega
theorem op_inT (hu : X.A.units + 65 < cLine) : OpR X (compareOp .In) (rInT X.K false) := by
  intro pins s σ H x y v u Q I rx ry h
  obtain ⟨d, ds, hd, he, sd, se, q⟩ := h
  obtain ⟨as, r1⟩ := Dp.reads I d x v hd rx
  obtain ⟨bs, r2⟩ := Dp.reads I (.tuple ds) y u he ry
  exact SeqAt.in_tuple_reads r2 r1 (SeqAt.canLay_of_shaped se) (SeqAt.canLay_of_shaped sd) (room_T sd hu) ⟨.bl _, H, I, rfl, q⟩
theorem op_notInT (hu : X.A.units + 65 < cLine) : OpR X (compareOp .NotIn) (rInT X.K true) := by
  intro pins s σ H x y v u Q I rx ry h
  obtain ⟨d, ds, hd, he, sd, se, q⟩ := h
  obtain ⟨as, r1⟩ := Dp.reads I d x v hd rx
  obtain ⟨bs, r2⟩ := Dp.reads I (.tuple ds) y u he ry
  exact SeqAt.notIn_tuple_reads r2 r1 (SeqAt.canLay_of_shaped se) (SeqAt.canLay_of_shaped sd) (room_T sd hu) ⟨.bl _, H, I, rfl, q⟩
end
/-! ### static methods off the class -/
structure SMet (K : PySem.W.Frag) (C : Addr) (mc : Value) (m : Str) (p g : Addr) : Prop where
  at_ : PySem.W.findCls K (.ref C) mc m = some (.get (.builtin "staticmethod.__get__") (.ref p) .none (.ref C))
  rc : ∃ rest, PySem.W.recIn K p "staticmethod" = some (.ref g :: rest)
  kp : PySem.W.keepIn K (.ref g) = true
/-- C.m(..) -/
def tSMeth (C : Addr) (sp : Sp) (dvs : List V) (E : XK) (ta : TE) (t : TA) : TE := fun σ H Q => ta σ H fun x H1 => x = .ref C ∧ t σ H1 fun vs H2 => sp (vs ++ dvs) H2 Q E
section
variable {X : Cx} {CX : CXT} {k : Nat} {C p g : Addr} {mc : Value} {m : Str} {fd : FuncData} {ps : List Str} {sp : Sp} {dvs : List V} {ds : List Value} {E : XK} {o e : Expr} {es : List Expr} {ta : TE} {t : TA} {apos pos : Pos}
theorem getmethsm {pins : List (Addr × Obj)} {σ : L2.St} {H : Hp} {s : Shared} {A : Around} {E : Value → Shared → Prop} {pl : Sem Bool} {Q : Value × List Value → Shared → Prop} (I : Inv X pins σ H s) (r : ClX.CRead X.K C mc) (c : SMet X.K C mc m p g)
    (h : ∀ s', Inv X pins σ H s' → Q (.ref g, []) s') : wpAny (model X.prog X.w) A (getMethod (.ref C) m pl) Q E s := by
  obtain ⟨rest, hp⟩ := c.rc
  exact PySem.W.method_cls I.kIn r.ga (PySem.W.cls_bind I.kIn r.rd c.at_ (wpAny_call (PySem.W.sm_get (s := { s with toks := s.toks + 1 }) I.kIn hp (PySem.W.handed_on rfl (h _ (I.tok _))))))
theorem pe_smeth {pl : Sem Bool} (he : PE X o ta) (r : ClX.CRead X.K C mc) (c : SMet X.K C mc m p g) (F : FnOk X.prog X.w X.K X.mg X.base CX k g fd ps sp) (hr : Room k X.A) (hb : Binds X.K fd ps ds) (hd : Vals dvs ds) (hx : Passes CX X E) (ha : PA X (e :: es) t)
    (hst : starEach (e :: es) X.env = (false, eval e X.env) :: starEach es X.env := by rfl) (hpl : (backTo pos (starEach es X.env)).any (·.1) = false := by rfl)
    (ht : eval (.Call (.Attribute o m apos) (e :: es) [] pos) X.env = (do
      let ov ← eval o X.env
      standAt apos.atName
      let (f, first) ← holding [ov] (getMethod ov m pl)
      callWith pos f first (backTo pos (starEach (e :: es) X.env)) (backToKw pos (keywordEach [] X.env))) := by rfl) :
    PE X (.Call (.Attribute o m apos) (e :: es) [] pos) (tSMeth C sp dvs E ta t) := by
  refine ⟨fun pins s σ H Q I h => ?_⟩
  refine PySem.W.methodCall_KW (pl := pl) (thn (he.run pins s σ H _ I h) fun u s1 ⟨x, H1, I1, rx, ex, q⟩ => ?_) ht
  subst ex
  obtain rfl : u = Value.ref C := rx
  refine getmethsm I1 r c fun s2 I2 => ?_
  exact PySem.W.callWith_K (first := []) (h₀ := X.base) I.ok.mod.kin c.kp (thn (ha.run pos pins s2 σ H1 _ I2 q) fun us s3 ⟨vs, H2, I3, rv, q2⟩ => ⟨I3.kIn, run_fn F hr hb hd hx I3 rv q2⟩) hst hpl
theorem pe_smeth0 {pl : Sem Bool} (he : PE X o ta) (r : ClX.CRead X.K C mc) (c : SMet X.K C mc m p g) (F : FnOk X.prog X.w X.K X.mg X.base CX k g fd ps sp) (hr : Room k X.A) (hb : Binds X.K fd ps ds) (hd : Vals dvs ds) (hx : Passes CX X E)
    (ht : eval (.Call (.Attribute o m apos) [] [] pos) X.env = (do
      let ov ← eval o X.env
      standAt apos.atName
      let (f, first) ← holding [ov] (getMethod ov m pl)
      callWith pos f first (backTo pos (starEach [] X.env)) (backToKw pos (keywordEach [] X.env))) := by rfl) :
    PE X (.Call (.Attribute o m apos) [] [] pos) (tSMeth C sp dvs E ta tNil) := by
  refine ⟨fun pins s σ H Q I h => ?_⟩
  refine PySem.W.methodCall_KW (pl := pl) (thn (he.run pins s σ H _ I h) fun u s1 ⟨x, H1, I1, rx, ex, q⟩ => ?_) ht
  subst ex
  obtain rfl : u = Value.ref C := rx
  refine getmethsm I1 r c fun s2 I2 => ?_
  exact PySem.W.callWith_K0 (first := []) I2.kIn c.kp (run_fn (us := []) F hr hb hd hx I2 .nil q)
end
/-! ### special methods of an instance: ==, !=, str, repr, an f-string's field -/
section
variable {X : Cx} {CX : CXT} {k : Nat} {C f : Addr} {fd : FuncData} {ps : List Str} {sp : Sp} {E : XK}
/-- the def runs in the surroundings A, which have the frames of X -/
theorem run_at {pins : List (Addr × Obj)} {σ : L2.St} {H : Hp} {s : Shared} {Q : VK} {us : List Value} {vs : List V} {A : Around} (F : FnOk X.prog X.w X.K X.mg X.base CX0 k f fd ps sp) (hr : Room k A) (hA : A.frames = X.A.frames) (hb : Binds X.K fd ps []) (I : Inv X pins σ H s) (r : Vals vs us) (h : sp vs H Q E0)
    {E' : Value → Shared → Prop} : wpAny (model X.prog X.w) A (call (.ref f) us) (EP X pins σ Q) E' s := by
  have hl : us.length = ps.length := by rw [← r.length]; exact F.len _ _ _ _ h
  have b := hb s us I.kIn (by rw [List.append_nil]; exact hl)
  rw [List.append_nil] at b
  have e := I.env0
  have e0 : Env0 X.prog X.w X.K X.mg X.base A X.stack s H := ⟨by rw [hA]; exact e.frames, e.mod, e.bs, e.bsz, e.funs, e.frf, e.hok, e.bare⟩
  refine wpAny_call (codeAny_mono (F.run A X.stack s H ⟨us, []⟩ us vs Q E0 hr e0 b r h) fun rr s' hq => ?_)
  cases rr with
  | error er => exact (show False from hq).elim
  | ok fl =>
    cases fl with
    | ret u => exact I.after hq
    | next => exact (show False from hq).elim
    | brk => exact (show False from hq).elim
    | cont => exact (show False from hq).elim
/-- what the class says of a special method of its own -/
structure Spec (K : PySem.W.Frag) (C : Addr) (m : Str) (f : Addr) : Prop where
  at_ : PySem.W.findIn K (.ref C) m = some (some (.ref f))
  fn : PySem.W.isFn K (.ref f) = true
theorem ty_looks {pins : List (Addr × Obj)} {σ : L2.St} {H : Hp} {s : Shared} {y : V} {u t : Value} (I : Inv X pins σ H s) (ry : RelV y u) (ty : TyX X.K H y t) {M : Model} : PySem.W.Looks M s.heap (typeOf u) t := by
  obtain ⟨P, Z, p, _⟩ := kit_of I ry ty
  exact Z.ty M s.heap I.kIn p
/-- x == y, x an instance whose class has an own __eq__ that gives a bool -/
def rEqO (K : PySem.W.Frag) (C : Addr) (sp : Sp) (neg : Bool) : R2 := fun x y H Q => ∃ a dx fs tb, x = .ref a ∧ H a = some (.ins C dx fs) ∧ TyX K H y tb ∧ PySem.W.notFirst K C tb = true ∧ sp [x, y] H (fun v H' => ∃ b, v = .bl b ∧ Q (.bl (if neg then !b else b)) H') E0
theorem op_eqO (F : FnOk X.prog X.w X.K X.mg X.base CX0 k f fd ps sp) (S : Spec X.K C "__eq__" f) (hr : Room k X.A) (hb : Binds X.K fd ps []) : OpR X (compareOp .Eq) (rEqO X.K C sp false) := by
  intro pins s σ H x y v u Q I rx ry h
  obtain ⟨a, dx, fs, tb, rfl, ha, ty, hn, q⟩ := h
  obtain rfl : v = Value.ref a := rx
  obtain ⟨mA, J, _⟩ := ins_get I.hok ha
  obtain ⟨od, J, _⟩ := J.look
  obtain ⟨m, hF⟩ := I.fr
  show wpAny (model X.prog X.w) X.A (richCompare .Eq (.ref a) u) (EP X pins σ Q) X.xe s
  refine PySem.W.cmp_K (op := .Eq) (tb := tb) hr.units0 hF I.ok.mod.kin J (ty_looks I ry ty) hn S.at_ S.fn ?_
  refine wpAny_mono (run_at (vs := [.ref a, y]) (us := [.ref a, u]) F hr rfl hb I (.cons rfl (.cons ry .nil)) q) (fun r s' z => ?_) fun _ _ z => z
  obtain ⟨z, H', I', rz, b, rfl, q'⟩ := z
  obtain rfl : r = Value.bool b := rz
  exact ⟨.bl b, H', I', rfl, q'⟩
theorem ifBoundB {M : Model} {A : Around} {E : Value → Shared → Prop} {s : Shared} {K : PySem.W.Frag} {x C : Addr} {ox : Obj} {od : Option Obj} {name : Str} {id : String} {args : List Value} {Q : Option Value → Shared → Prop} (KX : K.In s.heap) (J : PySem.W.InstAt s.heap x ox C od)
    (hs : PySem.W.findIn K (.ref C) name = some (some (.builtin id))) (hb : ∀ self, bindSpecial (.builtin id) self = pure (.builtin id, [self])) (h : wpAny M A (call (.builtin id) (.ref x :: args)) (fun v => Q (some v)) E s) : wpAny M A (callSpecialIfBound? (.ref x) name args) Q E s := by
  have fin : wpAny M A (call (.builtin id) ([.ref x] ++ args) >>= fun v => pure (some v)) Q E s := wpAny_bind (wpAny_mono h (fun _ _ z => wpAny_pure z) fun _ _ z => z)
  simp only [callSpecialIfBound?, bindSpecialIfBound?]
  refine wpAny_holding (wpAny_bind (wpAny_bind (wpAny_bind (J.type.here ((PySem.W.looks_findIn KX hs).here (wpAny_bind (wpAny_askSetting (wpAny_ite ?_))))))))
  split
  · exact wpAny_bind ((PySem.W.Looks.of_pure (hb _)).here (wpAny_pure (by exact fin)))
  · exact wpAny_tryCatch (wpAny_bind ((PySem.W.Looks.of_pure (hb _)).here (wpAny_pure (by exact fin))))
open Builtin in
theorem op_neO (F : FnOk X.prog X.w X.K X.mg X.base CX0 k f fd ps sp) (S : Spec X.K C "__eq__" f) (hne : PySem.W.findIn X.K (.ref C) "__ne__" = some (some (.builtin "object.__ne__"))) (hm : PySem.W.mroIn X.K C (.type "object") = some true) (hr : Room (k + 1) X.A) (hb : Binds X.K fd ps []) :
    OpR X (compareOp .NotEq) (rEqO X.K C sp true) := by
  intro pins s σ H x y v u Q I rx ry h
  obtain ⟨a, dx, fs, tb, rfl, ha, ty, hn, q⟩ := h
  obtain rfl : v = Value.ref a := rx
  obtain ⟨mA, J, _⟩ := ins_get I.hok ha
  obtain ⟨od, J, _⟩ := J.look
  have KX := I.kIn
  have hr1 : Room k X.A.in1 := hr.in1
  have bind : ∀ self : Value, bindSpecial (.builtin "object.__ne__") self = pure (.builtin "object.__ne__", [self]) := fun self => by with_unfolding_all rfl
  have inner : wpAny (model X.prog X.w) X.A (call (.builtin "object.__ne__") [.ref a, u]) (fun r s' => ∃ b, r = Value.bool b ∧ EP X pins σ Q r s') X.xe s := by
    refine wpAny_call (codeAny_call_builtin (by decide +kernel) PySem.F.cmpEntry_ne (PySem.W.check_slot PySem.F.cmpKind_ne PySem.F.cmpSplit_ne (J.type.andThen (PySem.W.looks_mroIn KX hm)) (PySem.F.cmpArgs_ne _ _) ?_))
    unfold Builtin.«object.__ne__»
    refine wpAny_bind (m := slotArgs "__ne__" 1 _) (wpAny_pure ?_)
    refine wpAny_bind (m := cRoomFor _ _) (wpAny_cRoomFor hr1.units0 ?_)
    refine wpAny_bind (m := callSpecialIfBound? (.ref a) (Str.ofString "__eq__") [u]) (PySem.W.ifBound_K KX J S.at_ S.fn ?_)
    refine wpAny_mono (run_at (vs := [.ref a, y]) (us := [.ref a, u]) F hr1 rfl hb I (.cons rfl (.cons ry .nil)) q) (fun r s' z => ?_) fun _ _ z => z
    obtain ⟨z, H', I', rz, b, rfl, q'⟩ := z
    obtain rfl : r = Value.bool b := rz
    refine wpAny_bind (m := truthy (.bool b)) (wpAny_truthy_bool ?_)
    exact wpAny_pure ⟨!b, rfl, .bl (!b), H', I', rfl, q'⟩
  have one : wpAny (model X.prog X.w) X.A (tryCompare (.ref a) "__ne__" u) (fun r s' => ∃ v, r = some v ∧ EP X pins σ Q v s') X.xe s := by
    unfold tryCompare
    refine wpAny_bind (ifBoundB KX J hne bind (wpAny_mono inner (fun r s' z => ?_) fun _ _ z => z))
    obtain ⟨b, rfl, z⟩ := z
    exact wpAny_pure ⟨_, rfl, z⟩
  show wpAny (model X.prog X.w) X.A (richCompare .NotEq (.ref a) u) (EP X pins σ Q) X.xe s
  unfold richCompare
  simp only [oneThing_ref]
  refine wpAny_holding (wpAny_bind (wpAny_cRoomFor hr.units0 (wpAny_bind (J.type.here (wpAny_bind ((ty_looks I ry ty).here ?_))))))
  split
  · rename_i c
    have e : PySem.W.subIn X.K tb (.ref C) = some false := by
      rcases Bool.or_eq_true_iff.mp hn with e | e
      · rw [beq_iff_eq.mp e] at c
        simp at c
      · exact beq_iff_eq.mp e
    refine wpAny_bind ((PySem.W.looks_subIn KX e).here ?_)
    simp only [Bool.false_eq_true, if_false]
    refine wpAny_bind (wpAny_mono one (fun r s' z => ?_) fun _ _ z => z)
    obtain ⟨v, rfl, z⟩ := z
    exact wpAny_pure z
  · refine wpAny_bind (wpAny_pure ?_)
    simp only [Bool.false_eq_true, if_false]
    refine wpAny_bind (wpAny_mono one (fun r s' z => ?_) fun _ _ z => z)
    obtain ⟨v, rfl, z⟩ := z
    exact wpAny_pure z
end
end Mine
namespace Mine
open PySem PySem.Spec PyProof.Rows L2
/-! ### the text of an instance by its own __str__, __repr__ -/
def spStrs (C : Addr) (sp : Sp) (x : V) (H : Hp) (Q : VK) : Prop := ∃ a dx fs, x = .ref a ∧ H a = some (.ins C dx fs) ∧ sp [x] H (fun v H' => ∃ z, v = .str z ∧ Q (.str z) H') E0
def rStrO (C : Addr) (sp : Sp) : List V → Hp → VK → Prop := fun xs H Q => ∃ x, xs = [x] ∧ spStrs C sp x H Q
def tFmtO (C : Addr) (sp : Sp) (te : TE) : TE := fun σ H Q => te σ H fun x H1 => spStrs C sp x H1 Q
section
variable {X : Cx} {k : Nat} {C f : Addr} {fd : FuncData} {ps : List Str} {sp : Sp}
theorem str_at {pins : List (Addr × Obj)} {σ : L2.St} {H : Hp} {s : Shared} {Q : VK} {A : Around} {E' : Value → Shared → Prop} {a : Addr} (F : FnOk X.prog X.w X.K X.mg X.base CX0 k f fd ps sp) (hr : Room k A) (hA : A.frames = X.A.frames) (hb : Binds X.K fd ps []) (I : Inv X pins σ H s)
    (q : sp [.ref a] H (fun v H' => ∃ z, v = .str z ∧ Q (.str z) H') E0) : wpAny (model X.prog X.w) A (call (.ref f) [.ref a]) (PySem.W.StrBack (EP X pins σ Q)) E' s := by
  refine wpAny_mono (run_at (vs := [.ref a]) (us := [.ref a]) F hr hA hb I (.cons rfl .nil) q) (fun r s' z => ?_) fun _ _ z => z
  obtain ⟨v, H', I', rv, z, rfl, q'⟩ := z
  obtain ⟨t, rfl⟩ := rv
  exact ⟨.str z, H', I', ⟨t, rfl⟩, q'⟩
theorem call_strO (F : FnOk X.prog X.w X.K X.mg X.base CX0 k f fd ps sp) (S : Spec X.K C "__str__" f) (hr : Room (k + 2) X.A) (hb : Binds X.K fd ps []) : CallR X (.type "str") (rStrO C sp) := by
  intro pins s σ H xs us Q I r h
  obtain ⟨x, rfl, a, dx, fs, rfl, ha, q⟩ := h
  obtain ⟨u, rfl, rx⟩ := vals1 r
  obtain rfl : u = Value.ref a := rx
  obtain ⟨mA, J, _⟩ := ins_get I.hok ha
  obtain ⟨od, J, _⟩ := J.look
  have hr2 : Room k X.A.in1.in1 := hr.in1.in1
  exact PySem.W.kso_call hr2.units0 I.kIn J S.at_ S.fn (str_at F hr2 rfl hb I q)
theorem call_reprO (F : FnOk X.prog X.w X.K X.mg X.base CX0 k f fd ps sp) (S : Spec X.K C "__repr__" f) (hr : Room (k + 1) X.A) (hb : Binds X.K fd ps []) : CallR X (.builtin "repr") (rStrO C sp) := by
  intro pins s σ H xs us Q I r h
  obtain ⟨x, rfl, a, dx, fs, rfl, ha, q⟩ := h
  obtain ⟨u, rfl, rx⟩ := vals1 r
  obtain rfl : u = Value.ref a := rx
  obtain ⟨mA, J, _⟩ := ins_get I.hok ha
  obtain ⟨od, J, _⟩ := J.look
  obtain ⟨m, hF⟩ := I.fr
  have hr1 : Room k X.A.in1 := hr.in1
  exact PySem.W.repr_K hr1.units0 hF I.ok.mod.kin J S.at_ S.fn (str_at F hr1 rfl hb I q)
/-- the class's texts are asked by an f-string's field -/
structure FmtC (K : PySem.W.Frag) (C : Addr) : Prop where
  fm : PySem.W.findIn K (.ref C) "__format__" = some (some (.builtin "object.__format__"))
  ob : PySem.W.mroIn K C (.type "object") = some true
theorem pe_fmtO {e : Expr} {te : TE} {pos : Pos} (F : FnOk X.prog X.w X.K X.mg X.base CX0 k f fd ps sp) (S : Spec X.K C "__str__" f) (M : FmtC X.K C) (hr : Room (k + 1) X.A) (hb : Binds X.K fd ps []) (he : PE X e te) : PE X (.FormattedValue e (-1) none pos) (tFmtO C sp te) := by
  refine ⟨fun pins s σ H Q I h => ?_⟩
  refine wpAny_FormattedValue_plain (thn (he.run pins s σ H _ I h) fun v s1 hv => ?_)
  obtain ⟨x, H1, I1, rx, a, dx, fs, rfl, ha, q⟩ := hv
  obtain rfl : v = Value.ref a := rx
  obtain ⟨mA, J, _⟩ := ins_get I1.hok ha
  obtain ⟨od, J, _⟩ := J.look
  have hr1 : Room k X.A.in1 := hr.in1
  exact PySem.W.kfo_fieldS hr1.units0 I1.kIn J M.fm M.ob S.at_ S.fn (str_at F hr1 rfl hb (I1.tok _) q)
end
end Mine
namespace Mine
open PySem PySem.Spec PyProof.Rows L2
/-! ### what an error has beside its code -/
def otherName (c : Str) : Option Str := if V.str c = .str "InvalidFact" then some "what" else if V.str c = .str "InvalidRow" then some "index" else if V.str c = .str "InvalidPage" then some "line" else if V.str c = .str "UnlikeWorlds" then none else some "deed"
def fieldName (c : Str) : Option Str :=
  if inV (.str c) [.str "InvalidName", .str "InvalidNumber"] = true then some "given" else if inV (.str c) [.str "InvalidText", .str "WrongKind", .str "InvalidBlank"] = true then some "at"
  else if inV (.str c) [.str "NameTaken", .str "InvalidWitness", .str "UnknownName"] = true then some "name" else if V.str c = .str "TooLarge" then none else otherName c
/-- an error with the code c and the value v of the field fn is told by its field -/
structure ErrAt (K : PySem.W.Frag) (cls : Value) (d : Option Addr) (H : Hp) (c fn : Str) (v : V) : Prop where
  ex : ∃ (C dd : Addr) (fs : List (Str × V)), cls = .ref C ∧ XfC K C ∧ PySem.W.findIn K (.ref C) "code" = some none ∧ PySem.W.findIn K (.ref C) fn = some none ∧ d = some dd ∧ H dd = some (.xd fs) ∧ fs.lookup ("code" : Str) = some (V.str c) ∧ fs.lookup fn = some v
def spOther (K : PySem.W.Frag) : SpE := fun a cls d vs H Q => ∃ (c fn : Str) (v : V), vs = [.ref a] ∧ ErrAt K cls d H c fn v ∧ otherName c = some fn ∧ Q v H
def spField (K : PySem.W.Frag) : SpE := fun a cls d vs H Q => ∃ (c fn : Str) (v : V), vs = [.ref a] ∧ ErrAt K cls d H c fn v ∧ fieldName c = some fn ∧ ∀ H', Same H H' → Q v H'
structure TxtF (K : PySem.W.Frag) (mg : Str → Option Value) (fO : Addr) : Prop where
  g_ofield : mg "_law_other_field" = some (.ref fO)
  k_ofield : PySem.W.keepIn K (.ref fO) = true
section
variable {P : Program} {w : World} {K : PySem.W.Frag} {mg : Str → Option Value} {base : Heap}
theorem ok_other {f : Addr} {fd : FuncData} (F : Fun K "_law_other_field" "_law_other_field" s_L_other_field f fd) : FnE P w K mg base 1 f fd ["_law_e"] (spOther K) := by
  refine Fun.okE F sc_L_other_field (fun a cls d vs H Q h => ?_) (fun cdv A outer s H vs Q p cls d hr hz hf h => ?_)
  · obtain ⟨_, _, _, rfl, _⟩ := h
    rfl
  · obtain ⟨c, fn, v, rfl, ⟨C, dd, fs, ec, X, n1, n2, ed, hd, l1, l2⟩, ho, q⟩ := h
    refine ⟨_, (pss_cons (ps_if (pt_cmpR op_eq (pe_xg (p := p) (cls := cls) (d := d) (List.Mem.head _) hz hf (pv 0) rfl) pe_str (nomark _))
 (pss_one (ps_ret (pe_xg (p := p) (cls := cls) (d := d) (List.Mem.head _) hz hf (pv 0) rfl)))
 pss_nil)
 (pss_cons (ps_if (pt_cmpR op_eq (pe_xg (p := p) (cls := cls) (d := d) (List.Mem.head _) hz hf (pv 0) rfl) pe_str (nomark _))
 (pss_one (ps_ret (pe_xg (p := p) (cls := cls) (d := d) (List.Mem.head _) hz hf (pv 0) rfl)))
 pss_nil)
 (pss_cons (ps_if (pt_cmpR op_eq (pe_xg (p := p) (cls := cls) (d := d) (List.Mem.head _) hz hf (pv 0) rfl) pe_str (nomark _))
 (pss_one (ps_ret (pe_xg (p := p) (cls := cls) (d := d) (List.Mem.head _) hz hf (pv 0) rfl)))
 pss_nil)
 (pss_one (ps_ret (pe_ifExp (pt_cmpR op_eq (pe_xg (p := p) (cls := cls) (d := d) (List.Mem.head _) hz hf (pv 0) rfl) pe_str (nomark _)) pe_non (pe_xg (p := p) (cls := cls) (d := d) (List.Mem.head _) hz hf (pv 0) rfl))))))), ?_⟩
    unfold otherName at ho
    refine ⟨_, rfl, rfl, C, dd, fs, _, ec, X, n1, ed, hd, l1, rfl, _, rfl, ?_⟩
    by_cases c1 : V.str c = .str "InvalidFact"
    · rw [if_pos c1] at ho
      cases ho
      exact itT (decide_eq_true c1) ⟨_, rfl, rfl, C, dd, fs, _, ec, X, n2, ed, hd, l2, q⟩
    · rw [if_neg c1] at ho
      refine itF (decide_eq_false c1) ?_
      refine ⟨_, rfl, rfl, C, dd, fs, _, ec, X, n1, ed, hd, l1, rfl, _, rfl, ?_⟩
      by_cases c2 : V.str c = .str "InvalidRow"
      · rw [if_pos c2] at ho
        cases ho
        exact itT (decide_eq_true c2) ⟨_, rfl, rfl, C, dd, fs, _, ec, X, n2, ed, hd, l2, q⟩
      · rw [if_neg c2] at ho
        refine itF (decide_eq_false c2) ?_
        refine ⟨_, rfl, rfl, C, dd, fs, _, ec, X, n1, ed, hd, l1, rfl, _, rfl, ?_⟩
        by_cases c3 : V.str c = .str "InvalidPage"
        · rw [if_pos c3] at ho
          cases ho
          exact itT (decide_eq_true c3) ⟨_, rfl, rfl, C, dd, fs, _, ec, X, n2, ed, hd, l2, q⟩
        · rw [if_neg c3] at ho
          refine itF (decide_eq_false c3) ?_
          refine ⟨_, rfl, rfl, C, dd, fs, _, ec, X, n1, ed, hd, l1, rfl, _, rfl, ?_⟩
          by_cases c4 : V.str c = .str "UnlikeWorlds"
          · rw [if_pos c4] at ho
            cases ho
          · rw [if_neg c4] at ho
            cases ho
            exact itF (decide_eq_false c4) ⟨_, rfl, rfl, C, dd, fs, _, ec, X, n2, ed, hd, l2, q⟩
theorem ok_field {f fO : Addr} {fd fdO : FuncData} (F : Fun K "_law_field" "_law_field" s_L_field f fd) (T : TxtF K mg fO) (G_ofield : FnE P w K mg base 1 fO fdO ["_law_e"] (spOther K)) (b_ofield : Binds K fdO ["_law_e"] []) : FnE P w K mg base 2 f fd ["_law_e"] (spField K) := by
  refine Fun.okE F sc_L_field (fun a cls d vs H Q h => ?_) (fun cdv A outer s H vs Q p cls d r_ofield hz hf h => ?_)
  · obtain ⟨_, _, _, rfl, _⟩ := h
    rfl
  · obtain ⟨c, fn, v, rfl, ⟨C, dd, fs, ec, X, n1, n2, ed, hd, l1, l2⟩, ho, k⟩ := h
    refine ⟨_, (pss_cons (ps_if (pt_cmpR op_in_seq (pe_xg (p := p) (cls := cls) (d := d) (List.Mem.head _) hz hf (pv 0) rfl) (pe_tup (pa_cons pe_str (pa_cons pe_str pa_nil))) (by rfl))
 (pss_one (ps_ret (pe_xg (p := p) (cls := cls) (d := d) (List.Mem.head _) hz hf (pv 0) rfl)))
 pss_nil)
 (pss_cons (ps_if (pt_cmpR op_in_seq (pe_xg (p := p) (cls := cls) (d := d) (List.Mem.head _) hz hf (pv 0) rfl) (pe_tup (pa_cons pe_str (pa_cons pe_str (pa_cons pe_str pa_nil)))) (by rfl))
 (pss_one (ps_ret (pe_xg (p := p) (cls := cls) (d := d) (List.Mem.head _) hz hf (pv 0) rfl)))
 pss_nil)
 (pss_cons (ps_if (pt_cmpR op_in_seq (pe_xg (p := p) (cls := cls) (d := d) (List.Mem.head _) hz hf (pv 0) rfl) (pe_tup (pa_cons pe_str (pa_cons pe_str (pa_cons pe_str pa_nil)))) (by rfl))
 (pss_one (ps_ret (pe_xg (p := p) (cls := cls) (d := d) (List.Mem.head _) hz hf (pv 0) rfl)))
 pss_nil)
 (pss_cons (ps_if (pt_cmpR op_eq (pe_xg (p := p) (cls := cls) (d := d) (List.Mem.head _) hz hf (pv 0) rfl) pe_str (nomark _))
 (pss_one (ps_ret (pe_tup (pa_cons (pe_xg (p := p) (cls := cls) (d := d) (List.Mem.head _) hz hf (pv 0) rfl) (pa_cons (pe_xg (p := p) (cls := cls) (d := d) (List.Mem.head _) hz hf (pv 0) rfl) pa_nil)))))
 pss_nil)
 (pss_one (ps_ret (pe_callE (p := p) (cls := cls) (d := d) G_ofield r_ofield (List.Mem.head _) hz hf rfl T.g_ofield T.k_ofield b_ofield (pa_cons (pv 0) pa_nil)))))))), ?_⟩
    unfold fieldName at ho
    refine ⟨_, rfl, rfl, C, dd, fs, _, ec, X, n1, ed, (Same.refl H) _ _ hd, l1, sz2, fun t1 m1 => ⟨_, _, rfl, .inr (SqT.of upd_same), rfl, rfl, _, rfl, ?_⟩⟩
    have s1 : Same H (upd H t1 (.tup [.str "InvalidName", .str "InvalidNumber"])) := Same.new m1
    by_cases c1 : inV (.str c) [.str "InvalidName", .str "InvalidNumber"] = true
    · rw [if_pos c1] at ho
      cases ho
      exact itT c1 ⟨_, rfl, rfl, C, dd, fs, _, ec, X, n2, ed, s1 _ _ hd, l2, k _ s1⟩
    · rw [if_neg c1] at ho
      refine itF (Bool.not_eq_true _ ▸ c1) ?_
      refine ⟨_, rfl, rfl, C, dd, fs, _, ec, X, n1, ed, s1 _ _ hd, l1, (by show 3 ≤ sizeLine; decide), fun t2 m2 => ⟨_, _, rfl, .inr (SqT.of upd_same), rfl, rfl, _, rfl, ?_⟩⟩
      have s2 : Same H (upd (upd H t1 (.tup [.str "InvalidName", .str "InvalidNumber"])) t2 (.tup [.str "InvalidText", .str "WrongKind", .str "InvalidBlank"])) := s1.trans (Same.new m2)
      by_cases c2 : inV (.str c) [.str "InvalidText", .str "WrongKind", .str "InvalidBlank"] = true
      · rw [if_pos c2] at ho
        cases ho
        exact itT c2 ⟨_, rfl, rfl, C, dd, fs, _, ec, X, n2, ed, s2 _ _ hd, l2, k _ s2⟩
      · rw [if_neg c2] at ho
        refine itF (Bool.not_eq_true _ ▸ c2) ?_
        refine ⟨_, rfl, rfl, C, dd, fs, _, ec, X, n1, ed, s2 _ _ hd, l1, (by show 3 ≤ sizeLine; decide), fun t3 m3 => ⟨_, _, rfl, .inr (SqT.of upd_same), rfl, rfl, _, rfl, ?_⟩⟩
        have s3 : Same H (upd (upd (upd H t1 (.tup [.str "InvalidName", .str "InvalidNumber"])) t2 (.tup [.str "InvalidText", .str "WrongKind", .str "InvalidBlank"])) t3 (.tup [.str "NameTaken", .str "InvalidWitness", .str "UnknownName"])) := s2.trans (Same.new m3)
        by_cases c3 : inV (.str c) [.str "NameTaken", .str "InvalidWitness", .str "UnknownName"] = true
        · rw [if_pos c3] at ho
          cases ho
          exact itT c3 ⟨_, rfl, rfl, C, dd, fs, _, ec, X, n2, ed, s3 _ _ hd, l2, k _ s3⟩
        · rw [if_neg c3] at ho
          refine itF (Bool.not_eq_true _ ▸ c3) ?_
          refine ⟨_, rfl, rfl, C, dd, fs, _, ec, X, n1, ed, s3 _ _ hd, l1, rfl, _, rfl, ?_⟩
          by_cases c4 : V.str c = .str "TooLarge"
          · rw [if_pos c4] at ho
            cases ho
          · rw [if_neg c4] at ho
            refine itF (decide_eq_false c4) ?_
            exact ⟨_, rfl, c, fn, v, rfl, ⟨C, dd, fs, ec, X, n1, n2, ed, s3 _ _ hd, l1, l2⟩, ho, k _ s3⟩
end
end Mine
namespace Mine
open PySem PySem.Spec PyProof.Rows L2
/-! ### errors made -/
/-- the __init__ of an error with one field fn beside its code c -/
def spErr1 (C : Addr) (c fn : Str) : Sp := fun vs H Q _ => ∃ (a : Addr) (v : V), vs = [.ref a, v] ∧ H a = some (exo a C none) ∧
  ∀ (d : Addr) (H' : Hp), H d = none → d ≠ a → H' a = some (exo a C (some d)) → H' d = some (exd d [(fn, v), ("code", .str c)]) → (∀ b, b ≠ a → b ≠ d → H' b = H b) → Q .non H'
/-- the heap behind a raise: the error's dict beside what stood -/
theorem raised_heap {H H2 : Hp} {a d : Addr} {fs : List (Str × V)} (ha : H a = none) (hd : H d = none) (e : ∀ b, b ≠ a → b ≠ d → H2 b = upd H a (exo a 0 none) b) : upd (del H2 a) d (.xd fs) = upd H d (.xd fs) := by
  funext b
  by_cases hb : b = d
  · rw [hb, upd_same, upd_same]
  · rw [upd_ne hb, upd_ne hb]
    by_cases hba : b = a
    · rw [hba, del_same, ha]
    · rw [del_ne hba, e b hba hb, upd_ne hba]
/-- what the top says of an error class -/
structure ErrC (K : PySem.W.Frag) (mg : Str → Option Value) (nm fn : Str) (C fI : Addr) : Prop where
  x : OexC K C
  i : PySem.W.findIn K (.ref C) "__init__" = some (some (.ref fI))
  t : PySem.W.typeIn K (.ref fI) = some (.type "function")
  g : mg nm = some (.ref C)
  nc : PySem.W.findIn K (.ref C) "code" = some none
  nf : PySem.W.findIn K (.ref C) fn = some none
  xf : XfC K C
section
variable {P : Program} {w : World} {K : PySem.W.Frag} {mg : Str → Option Value} {base : Heap}
theorem ok_InvalidName {f C : Addr} {fd : FuncData} (F : Fun K "__init__" "InvalidName.__init__" s_InvalidName_D_initD_ f fd) (T : ErrC K mg "InvalidName" "given" C f) : FnOk P w K mg base CX0 1 f fd ["self", "given"] (spErr1 C "InvalidName" "given") := by
  refine F.ok sc_InvalidName_D_initD_ (fun vs H Q E h => ?_) (fun cdv A outer s H vs Q E hr h => ?_)
  · obtain ⟨a, v, rfl, _⟩ := h
    rfl
  · obtain ⟨a, v, rfl, ha, k⟩ := h
    refine ⟨_, (pss_cons (ps_ost (pv 0) pe_str rfl)
 (pss_one (ps_ost (pv 0) (pv 1) rfl))), ?_⟩
    refine ⟨_, rfl, a, C, rfl, T.x, T.nc, .inl ⟨ha, fun d nd ne => ?_⟩⟩
    have e1 : upd (upd H d (exd d [("code", .str "InvalidName")])) a (exo a C (some d)) d = some (exd d [("code", .str "InvalidName")]) := by rw [upd_ne ne, upd_same]
    refine ⟨_, rfl, _, rfl, a, C, rfl, T.x, T.nf, .inr ⟨d, _, upd_same, e1, (by show 1 ≤ 900; decide), ?_⟩⟩
    refine k d _ nd ne ?_ upd_same fun b hba hbd => ?_
    · rw [upd_ne ne.symm, upd_same]
    · rw [upd_ne hbd, upd_ne hba, upd_ne hbd]
end
end Mine
namespace Mine
open PySem PySem.Spec PyProof.Rows L2
theorem hu65 {A : Around} {k : Nat} (hr : Room k A) : A.units + 65 < cLine := by have := hr.un; omega
def names4 : List PyData := [.str "one", .str "site", .str "depth", .str "new"]
def ruleF (x y : V) : List (Str × V) := [("naming", x), ("renewed", y)]
theorem ruleF_naming (x y : V) : (ruleF x y).lookup ("naming" : Str) = some x := by
  unfold ruleF
  rw [lookup_put, if_pos rfl]
theorem ruleF_renewed (x y : V) : (ruleF x y).lookup ("renewed" : Str) = some y := by
  unfold ruleF
  rw [lookup_put, if_neg (by decide +kernel), lookup_put, if_pos rfl]
theorem ruleF_no (x y : V) {m : Str} (h1 : ¬ m = "naming") (h2 : ¬ m = "renewed") : (ruleF x y).lookup m = none := by
  unfold ruleF
  rw [lookup_put, if_neg h1, lookup_put, if_neg h2]
  rfl
theorem put_rule (x y : V) : putF "renewed" y (putF "naming" x []) = ruleF x y := by
  show (if ("naming" : Str) = "renewed" then _ else _) = _
  rw [if_neg (by decide +kernel)]
  rfl
structure RuleC (K : PySem.W.Frag) (mg : Str → Option Value) (C aN CE fE : Addr) : Prop where
  cl : Cls K C
  nN : NoAttr K C "naming"
  nR : NoAttr K C "renewed"
  g_Rule : mg "Rule" = some (.ref C)
  g_NAMINGS : mg "NAMINGS" = some (.ref aN)
  nam : ∃ (o : Obj) (its : Array Value) (n : Nat), K.lookup aN = some o ∧ o.cls = .type "tuple" ∧ o.data = .seq its n ∧ its.size ≤ sizeLine ∧ Vals [.str "one", .str "site", .str "depth", .str "new"] its.toList
  x_InvalidName : OexC K CE
  i_InvalidName : PySem.W.findIn K (.ref CE) "__init__" = some (some (.ref fE))
  t_InvalidName : PySem.W.typeIn K (.ref fE) = some (.type "function")
  g_InvalidName : mg "InvalidName" = some (.ref CE)
theorem dp_names {K : PySem.W.Frag} {mg : Str → Option Value} {C aN CE fE : Addr} (T : RuleC K mg C aN CE fE) (H : Hp) : Dp K H (.ref aN) (.tuple names4) :=
  .tup (.inr T.nam) (.cons (.str _) (.cons (.str _) (.cons (.str _) (.cons (.str _) .nil))))
def spRuleInit (K : PySem.W.Frag) (C CE : Addr) : Sp := fun vs H Q E => ∃ (a dx : Addr) (x y : V) (d : PyData), vs = [.ref a, x, y] ∧ H a = some (.ins C dx []) ∧ Dp K H x d ∧ SeqAt.shaped d = true ∧
  ((names4.any fun z => PyData.eqv z d) = true → Q .non (upd H a (.ins C dx (ruleF x y)))) ∧
  ((names4.any fun z => PyData.eqv z d) = false → ∀ e, H e = none → E (.ref CE) (some e) (upd H e (.xd [("given", x), ("code", .str "InvalidName")])))
theorem sh_names : SeqAt.shaped (.tuple names4) = true := by decide +kernel
section
variable {P : Program} {w : World} {K : PySem.W.Frag} {mg : Str → Option Value} {base : Heap}
theorem ok_Rule {f C aN CE fE : Addr} {fd fdE : FuncData} {dvs : List V} {kws : List (Str × V)} (F : FunD K "__init__" "Rule.__init__" (defArgs s_Rule_D_initD_) (defBody s_Rule_D_initD_) (defScope s_Rule_D_initD_) dvs kws f fd) (T : RuleC K mg C aN CE fE)
    (G_InvalidName : FnOk P w K mg base CX0 1 fE fdE ["self", "given"] (spErr1 CE "InvalidName" "given")) (b_InvalidName : Binds K fdE ["self", "given"] []) : FnOk P w K mg base (L2.CX P w) 3 f fd ["self", "naming", "renewed"] (spRuleInit K C CE) := by
  refine F.ok sc_Rule_D_initD_ (fun vs H Q E h => ?_) (fun cdv A outer s H vs Q E r_InvalidName h => ?_)
  · obtain ⟨_, _, _, _, _, rfl, _⟩ := h
    rfl
  · obtain ⟨a, dx, x, y, d, rfl, ha, hx, sd, kY, kN⟩ := h
    refine ⟨_, (pss_cons (ps_if (pt_cmpR (op_notInT (hu65 r_InvalidName)) (pv 1) (pe_glob (v := .ref _) rfl T.g_NAMINGS rfl) (by rfl))
 (pss_one (ps_raise rfl (takes_of rfl rfl rfl rfl) (pmk_oex T.x_InvalidName T.i_InvalidName T.t_InvalidName G_InvalidName r_InvalidName b_InvalidName .nil pass0 rfl T.g_InvalidName (pa_cons (pv 1) pa_nil))))
 pss_nil)
 (pss_cons (ps_fld (pv 0) (pv 1) rfl)
 (pss_one (ps_fld (pv 0) (pv 2) rfl)))), ?_⟩
    refine ⟨_, rfl, d, names4, hx, dp_names T H, sd, sh_names, _, rfl, ?_⟩
    cases e : (names4.any fun z => PyData.eqv z d) with
    | false =>
      refine ⟨_, rfl, (by show 1 ≤ 1000; decide), fun p np => ?_⟩
      refine ⟨p, x, rfl, upd_same, fun d' H' nd ne h1 h2 h3 => ⟨rfl, d', _, h1, h2, ?_, ?_⟩⟩
      · rw [upd_ne ne] at nd
        exact nd
      · rw [upd_ne ne] at nd
        have eq : upd (del H' p) d' (.xd [("given", x), ("code", .str "InvalidName")]) = upd H d' (.xd [("given", x), ("code", .str "InvalidName")]) := by
          funext b
          by_cases hb : b = d'
          · rw [hb, upd_same, upd_same]
          · rw [upd_ne hb, upd_ne hb]
            by_cases hba : b = p
            · rw [hba, del_same, np]
            · rw [del_ne hba, h3 b hba hb, upd_ne hba]
        rw [eq]
        exact kN e d' nd
    | true =>
      refine ⟨_, rfl, _, rfl, a, C, dx, _, rfl, ha, T.cl, T.nN, (by show 0 < 1000; decide), ?_⟩
      refine ⟨_, rfl, _, rfl, a, C, dx, _, rfl, upd_same, T.cl, T.nR, (by show 1 < 1000; decide), ?_⟩
      rw [put_rule, upd_upd]
      exact kY e
end
end Mine
namespace Mine
open PySem PySem.Spec PyProof.Rows L2
def RuleAt (C : Addr) (H : Hp) (a : Addr) (n : Str) (b : Bool) : Prop := ∃ dx, H a = some (.ins C dx (ruleF (.str n) (.bl b)))
theorem RuleAt.mono {C : Addr} {H H' : Hp} {a : Addr} {n : Str} {b : Bool} (h : RuleAt C H a n b) (e : Same H H') : RuleAt C H' a n b := let ⟨dx, z⟩ := h; ⟨dx, e _ _ z⟩
/-- ==: another rule, or a value of another type -/
def spRuleEq (K : PySem.W.Frag) (C : Addr) : Sp := fun vs H Q _ => ∃ (a : Addr) (n : Str) (b : Bool) (y : V), vs = [.ref a, y] ∧ RuleAt C H a n b ∧
  ((∃ (a' : Addr) (n' : Str) (b' : Bool), y = .ref a' ∧ RuleAt C H a' n' b' ∧ Q (.bl (decide (n = n') && decide (b = b'))) H) ∨ (∃ t, TyX K H y t ∧ PySem.W.kitOne K t (.ref C) = some false ∧ Q (.bl false) H))
def ruleText (n : Str) (b : Bool) : Str := Str.empty ++ n ++ " " ++ (if b then "renewed" else "kept")
theorem szle {n : Nat} (h : n ≤ 100000) : n ≤ sizeLine := Evl.sz_of h
theorem rule_len (n : Str) (b : Bool) : (ruleText n b).length ≤ n.length + 8 := by
  have l1 : ("renewed" : Str).length = 7 := by decide +kernel
  have l2 : ("kept" : Str).length = 4 := by decide +kernel
  have l3 : (" " : Str).length = 1 := by decide +kernel
  have l0 : (Str.empty : Str).length = 0 := rfl
  unfold ruleText
  cases b
  · rw [if_neg Bool.false_ne_true, Str.length_append, Str.length_append, Str.length_append]
    omega
  · rw [if_pos rfl, Str.length_append, Str.length_append, Str.length_append]
    omega
def spRuleStr (C : Addr) : Sp := fun vs H Q _ => ∃ (a : Addr) (n : Str) (b : Bool), vs = [.ref a] ∧ RuleAt C H a n b ∧ n.length ≤ 100 ∧ Q (.str (ruleText n b)) H
def ruleRepr (n : Str) (b : Bool) : Str := Str.empty ++ "Rule(" ++ ruleText n b ++ ")"
def spRuleRepr (C : Addr) : Sp := fun vs H Q _ => ∃ (a : Addr) (n : Str) (b : Bool), vs = [.ref a] ∧ RuleAt C H a n b ∧ n.length ≤ 100 ∧ Q (.str (ruleRepr n b)) H
structure RuleE (K : PySem.W.Frag) (mg : Str → Option Value) (C : Addr) : Prop where
  g_Rule : mg "Rule" = some (.ref C)
  isinstance : mg "isinstance" = none
  cl : Cls K C
  nN : NoAttr K C "naming"
  nR : NoAttr K C "renewed"
  tyi : ∀ (H : Hp) (a dx : Addr) (fs : List (Str × V)), H a = some (.ins C dx fs) → TyX K H (.ref a) (.ref C)
section
variable {P : Program} {w : World} {K : PySem.W.Frag} {mg : Str → Option Value} {base : Heap}
theorem kit_self {C : Addr} : PySem.W.kitOne K (.ref C) (.ref C) = some true := by
  unfold PySem.W.kitOne
  rw [if_pos (by simp)]
theorem ok_eq {f C : Addr} {fd : FuncData} (F : Fun K "__eq__" "Rule.__eq__" s_Rule_D_eqD_ f fd) (T : RuleE K mg C) : FnOk P w K mg base CX0 1 f fd ["self", "other"] (spRuleEq K C) := by
  refine F.ok sc_Rule_D_eqD_ (fun vs H Q E h => ?_) (fun cdv A outer s H vs Q E hr h => ?_)
  · obtain ⟨_, _, _, _, rfl, _⟩ := h
    rfl
  · obtain ⟨a, n, b, y, rfl, ⟨dx, ha⟩, h⟩ := h
    refine ⟨_, (pss_one (ps_ret (pe_and (pe_callB call_isi (by rfl) T.isinstance (by decide +kernel) (pa_cons (pv 1) (pa_cons (pe_glob (v := .ref _) rfl T.g_Rule rfl) pa_nil))) (pe_and (pe_cmpR op_eq (pe_fld (pv 0) rfl) (pe_fld (pv 1) rfl) (nomark _)) (pe_one (pe_cmpR op_eq (pe_fld (pv 0) rfl) (pe_fld (pv 1) rfl) (nomark _))))))), ?_⟩
    rcases h with ⟨a', n', b', rfl, ⟨dy, hb⟩, q⟩ | ⟨t, ty, kt, q⟩
    · refine ⟨_, rfl, _, _, _, _, _, rfl, .own C, T.tyi _ _ _ _ hb, kit_self, true, rfl, ?_⟩
      refine ⟨_, rfl, a, C, dx, _, _, rfl, ha, T.cl, T.nN, ruleF_naming _ _, _, rfl, a', C, dy, _, _, rfl, hb, T.cl, T.nN, ruleF_naming _ _, rfl, _, rfl, ?_⟩
      by_cases c : n = n'
      · subst c
        refine itT (decide_eq_true rfl) ?_
        refine ⟨_, rfl, a, C, dx, _, _, rfl, ha, T.cl, T.nR, ruleF_renewed _ _, _, rfl, a', C, dy, _, _, rfl, hb, T.cl, T.nR, ruleF_renewed _ _, rfl, ?_⟩
        have e : decide (V.bl b = V.bl b') = (decide (n = n) && decide (b = b')) := by cases b <;> cases b' <;> simp
        rw [e]
        exact q
      · refine itF (decide_eq_false fun z => c (V.str.inj z)) ?_
        have e : (decide (n = n') && decide (b = b')) = false := by simp [c]
        rw [e] at q
        exact q
    · exact ⟨_, rfl, _, _, _, _, _, rfl, .own C, ty, kt, false, rfl, q⟩
theorem ok_str {f C : Addr} {fd : FuncData} (F : Fun K "__str__" "Rule.__str__" s_Rule_D_strD_ f fd) (T : RuleE K mg C) : FnOk P w K mg base CX0 1 f fd ["self"] (spRuleStr C) := by
  refine F.ok sc_Rule_D_strD_ (fun vs H Q E h => ?_) (fun cdv A outer s H vs Q E hr h => ?_)
  · obtain ⟨_, _, _, rfl, _⟩ := h
    rfl
  · obtain ⟨a, n, b, rfl, ⟨dx, ha⟩, hl, q⟩ := h
    refine ⟨_, (pss_one (ps_ret (pe_joined (PJ.cons (pe_fmt (pe_fld (pv 0) rfl)) (PJ.cons pe_str (PJ.cons (pe_fmt (pe_ifExp (pt_val (pe_fld (pv 0) rfl)) pe_str pe_str)) PJ.nil)))))), ?_⟩
    have l1 : ("renewed" : Str).length = 7 := by decide +kernel
    have l2 : ("kept" : Str).length = 4 := by decide +kernel
    have l3 : (" " : Str).length = 1 := by decide +kernel
    have l0 : (Str.empty : Str).length = 0 := rfl
    have lt := rule_len n b
    refine ⟨_, rfl, a, C, dx, _, _, rfl, ha, T.cl, T.nN, ruleF_naming _ _, .inl ⟨n, rfl, szle (by omega), n, rfl, szle ?_, " ", rfl, szle ?_, ?_⟩⟩
    · rw [Str.length_append]
      omega
    · rw [Str.length_append, Str.length_append]
      omega
    · refine ⟨_, rfl, a, C, dx, _, _, rfl, ha, T.cl, T.nR, ruleF_renewed _ _, b, rfl, ?_⟩
      cases b
      · exact .inl ⟨"kept", rfl, szle (by omega), "kept", rfl, szle (Nat.le_trans lt (by omega)), q⟩
      · exact .inl ⟨"renewed", rfl, szle (by omega), "renewed", rfl, szle (Nat.le_trans lt (by omega)), q⟩
structure RuleS (K : PySem.W.Frag) (C fS : Addr) : Prop where
  str : Spec K C "__str__" fS
  fmt : FmtC K C
theorem ok_repr {f C fS : Addr} {fd fdS : FuncData} (F : Fun K "__repr__" "Rule.__repr__" s_Rule_D_reprD_ f fd) (T2 : RuleS K C fS) (G_str : FnOk P w K mg base CX0 1 fS fdS ["self"] (spRuleStr C)) (b_str : Binds K fdS ["self"] []) : FnOk P w K mg base CX0 3 f fd ["self"] (spRuleRepr C) := by
  refine F.ok sc_Rule_D_reprD_ (fun vs H Q E h => ?_) (fun cdv A outer s H vs Q E r_str h => ?_)
  · obtain ⟨_, _, _, rfl, _⟩ := h
    rfl
  · obtain ⟨a, n, b, rfl, ⟨dx, ha⟩, hl, q⟩ := h
    refine ⟨_, (pss_one (ps_ret (pe_joined (PJ.cons pe_str (PJ.cons (pe_fmtO G_str T2.str T2.fmt r_str b_str (pv 0)) (PJ.cons pe_str PJ.nil)))))), ?_⟩
    have l0 : (Str.empty : Str).length = 0 := rfl
    have l1 : ("Rule(" : Str).length = 5 := by decide +kernel
    have l2 : (")" : Str).length = 1 := by decide +kernel
    have lt := rule_len n b
    refine ⟨"Rule(", rfl, szle (by rw [Str.length_append]; omega), _, rfl, a, dx, _, rfl, ha, a, n, b, rfl, ⟨dx, ha⟩, hl, _, rfl, _, rfl, szle (by rw [Str.length_append, Str.length_append]; omega), ")", rfl, szle (by rw [Str.length_append, Str.length_append, Str.length_append]; omega), q⟩
end
end Mine
namespace Mine
open PySem PySem.Spec PyProof.Rows L2
/-- a loop of a comprehension: B is what a turn asks -/
theorem turns_it {J : It} {n : Nat} {G : Hp → Prop} {Y : Nat → Hp → V → Hp → Prop} (w : Walk J n G Y) {Hs : Hp} {Qd : Hp → Prop} {B : (Hp → Prop) → V → Hp → Prop} (Pv : Nat → Hp → Prop) (h0 : Pv 0 Hs) (hG : ∀ i H, i ≤ n → Pv i H → G H)
    (hs : ∀ i x H H', i < n → Pv i H → Y i H x H' → B (Pv (i + 1)) x H') (hd : ∀ H, Pv n H → Qd H) :
    ∃ W : Nat → Nat → Hp → Prop, (∃ m, W 0 m Hs) ∧ ∀ i m H, W i m H → (J.stop i H ∧ Qd H) ∨ (J.go i H ∧ ∃ Nx : Hp → Prop, (∀ H', Nx H' → ∃ m', m' < m ∧ W (i + 1) m' H') ∧ ∀ x H', J.yld i H x H' → B Nx x H') := by
  refine ⟨fun i m H => m = n - i ∧ i ≤ n ∧ Pv i H, ⟨n, rfl, Nat.zero_le _, h0⟩, ?_⟩
  rintro i m H ⟨rfl, hi, p⟩
  by_cases c : i < n
  · exact .inr ⟨w.goes i H c (hG i H hi p), Pv (i + 1), fun H' p' => ⟨n - (i + 1), by omega, rfl, c, p'⟩, fun x H' y => hs i x H H' c p (w.yields i H x H' c (hG i H hi p) y)⟩
  · obtain rfl : i = n := by omega
    exact .inl ⟨w.stops H (hG i H hi p), hd H p⟩
def rows8 : List (Str × Bool) := [("one", false), ("one", true), ("site", false), ("site", true), ("depth", false), ("depth", true), ("new", false), ("new", true)]
def nameAt (i : Nat) : Str := (["one", "site", "depth", "new"] : List Str).getD i ""
/-- the rules at rs are those of the rows -/
def Rules (C : Addr) (H : Hp) (rs : List Addr) (rows : List (Str × Bool)) : Prop := rs.length = rows.length ∧ ∀ (i : Nat) (a : Addr) (r : Str × Bool), rs[i]? = some a → rows[i]? = some r → RuleAt C H a r.1 r.2
theorem Rules.mono {C : Addr} {H H' : Hp} {rs : List Addr} {rows : List (Str × Bool)} (h : Rules C H rs rows) (e : Same H H') : Rules C H' rs rows := ⟨h.1, fun i a r h1 h2 => (h.2 i a r h1 h2).mono e⟩
theorem Rules.snoc {C : Addr} {H : Hp} {rs : List Addr} {rows : List (Str × Bool)} {a : Addr} {r : Str × Bool} (h : Rules C H rs rows) (ha : RuleAt C H a r.1 r.2) : Rules C H (rs ++ [a]) (rows ++ [r]) := by
  refine ⟨by rw [List.length_append, List.length_append, h.1]; rfl, fun i b q h1 h2 => ?_⟩
  by_cases c : i < rs.length
  · rw [List.getElem?_append_left c] at h1
    rw [List.getElem?_append_left (h.1 ▸ c)] at h2
    exact h.2 i b q h1 h2
  · rw [List.getElem?_append_right (by omega)] at h1
    rw [List.getElem?_append_right (by have := h.1; omega)] at h2
    rw [← h.1] at h2
    cases e : i - rs.length with
    | zero =>
      rw [e] at h1 h2
      cases h1
      cases h2
      exact ha
    | succ m =>
      rw [e] at h1
      cases h1
def spEvery (C : Addr) : Sp := fun vs H Q _ => vs = [] ∧ ∀ (p : Addr) (rs : List Addr) (H' : Hp), H p = none → Same H H' → H' p = some (.lst (rs.map V.ref)) → Rules C H' rs rows8 → Q (.ref p) H'
theorem Same.make {H : Hp} {x dx : Addr} {o u : HO} (hx : H x = none) (hd : H dx = none) : Same H (upd (upd H dx o) x u) := fun b q e => by rw [upd_ne (ne_of_none e hx), upd_ne (ne_of_none e hd)]; exact e
theorem name_ok : ∀ i, i < 4 → (names4.any fun z => PyData.eqv z (.str (nameAt i))) = true := by decide +kernel
theorem name_at : ∀ i, i < 4 → ∀ x : V, ([V.str "one", V.str "site", V.str "depth", V.str "new"] : List V)[i]? = some x → x = .str (nameAt i)
  | 0, _, x, h => (Option.some.inj h).symm
  | 1, _, x, h => (Option.some.inj h).symm
  | 2, _, x, h => (Option.some.inj h).symm
  | 3, _, x, h => (Option.some.inj h).symm
  | n + 4, h, _, _ => absurd h (by omega)
theorem row_at : ∀ i, i < 4 → ∀ j, j < 2 → rows8.take (2 * i + (j + 1)) = rows8.take (2 * i + j) ++ [(nameAt i, decide (j = 1))] := by decide +kernel
theorem sh_name : ∀ i, i < 4 → SeqAt.shaped (.str (nameAt i)) = true := by decide +kernel
section
variable {P : Program} {w : World} {K : PySem.W.Frag} {mg : Str → Option Value} {base : Heap}
theorem ok_every {f fR C aN CE fE : Addr} {fd fdR : FuncData} {g : List Value → List Value → List Value} (F : Fun K "every" "Rule.every" s_Rule_every f fd) (T : RuleC K mg C aN CE fE) (M_Rule : Mk K C fR)
    (G_Rule : FnOk P w K mg base (L2.CX P w) 3 fR fdR ["self", "naming", "renewed"] (spRuleInit K C CE)) (kb_Rule : KBn K fdR ["self", "naming", "renewed"] 2 ["renewed"] g (fun vs zs => vs ++ zs)) : FnOk P w K mg base CX0 5 f fd [] (spEvery C) := by
  refine F.ok sc_Rule_every (fun vs H Q E h => ?_) (fun cdv A outer s H vs Q E r_Rule h => ?_)
  · rw [h.1]
    rfl
  · obtain ⟨rfl, k⟩ := h
    refine ⟨_, (pss_one (ps_ret (pe_lc2 (own := [("naming", 0), ("flag", 1)]) (vs1 := [1]) (g := (gName 0)) (g1 := (gName 1)) (tt := tYes) (tt1 := tYes) (wi1 := iTup K (tTup (tCons (tC (.bl false)) (tCons (tC (.bl true)) tNil)))) rfl sc_Rule_every.nd (pi_tup (pe_glob (v := .ref _) rfl T.g_NAMINGS rfl)) (blkOk_by (own := [("naming", 0), ("flag", 1)]) (N := ["naming", "flag"]) (sc := defScope s_Rule_every) (by decide +kernel)) (by decide) (fun _ _ _ _ _ => (pg_name (i := 0) sc_Rule_every.nd rfl (Or.inl rfl))) (fun _ _ _ _ _ => pts_nil) (fun _ _ _ _ _ => (pi_tup (pe_tup (pa_cons pe_bl (pa_cons pe_bl pa_nil))))) (fun _ _ _ _ _ => (pg_name (i := 1) sc_Rule_every.nd rfl (Or.inl rfl))) (fun _ _ _ _ _ => pts_nil) (fun _ _ _ _ _ => (pe_makeK M_Rule G_Rule r_Rule rfl T.g_Rule kb_Rule passL (pa_cons (pv 0) pa_nil) (pk_cons (pv 1) pk_nil)))))), ?_⟩
    have names : ∀ H' : Hp, SqT K H' aN [.str "one", .str "site", .str "depth", .str "new"] := fun _ => .inr T.nam
    refine ⟨aN, rfl, ⟨_, names H⟩, fun D nD => ?_⟩
    refine turns_it (walk_tup (xs := [.str "one", .str "site", .str "depth", .str "new"])) (fun i H' => Same H H' ∧ ∃ rs : List Addr, H' D = some (.lst (rs.map V.ref)) ∧ Rules C H' rs (rows8.take (2 * i)))
      ⟨Same.new nD, [], upd_same, rfl, fun i a r h => by simp at h⟩ (fun i H' _ _ => names H') ?_ (fun H' ⟨s1, rs, h1, h2⟩ => k D rs H' nD s1 h1 h2)
    rintro i x H1 H2 hi ⟨s1, rs, hD, hR⟩ ⟨rfl, hx⟩
    have hi4 : i < 4 := hi
    have ex := name_at i hi4 x hx
    subst ex
    refine ⟨rfl, sz2, fun tp ntp => ⟨tp, rfl, ⟨_, SqT.of upd_same⟩, ?_⟩⟩
    have s2 : Same H2 (upd H2 tp (.tup [.bl false, .bl true])) := Same.new ntp
    refine turns_it (walk_tup (xs := [.bl false, .bl true])) (fun j H' => Same H H' ∧ H' tp = some (.tup [.bl false, .bl true]) ∧ ∃ rs : List Addr, H' D = some (.lst (rs.map V.ref)) ∧ Rules C H' rs (rows8.take (2 * i + j)))
      ⟨s1.trans s2, upd_same, rs, s2 _ _ hD, hR.mono s2⟩ (fun j H' _ p => SqT.of p.2.1) ?_ (fun H' ⟨a1, _, rs', a2, a3⟩ => ⟨a1, rs', a2, a3⟩)
    rintro j y H3 H4 hj ⟨s3, ht, rs', hD3, hR3⟩ ⟨rfl, hy⟩
    have hj2 : j < 2 := hj
    have ey : y = .bl (decide (j = 1)) := by
      match j, hj2, hy with
      | 0, _, hy => exact (Option.some.inj hy).symm
      | 1, _, hy => exact (Option.some.inj hy).symm
    subst ey
    refine ⟨rfl, _, rfl, _, rfl, rfl, rfl, fun p dx np nd ne => ?_⟩
    refine ⟨p, dx, .str (nameAt i), .bl (decide (j = 1)), .str (nameAt i), rfl, upd_same, .str _, sh_name i hi4, fun _ => ⟨rfl, rs'.map V.ref, ?_, ?_, ?_⟩, fun z => absurd (name_ok i hi4) (by rw [z]; exact Bool.false_ne_true)⟩
    · rw [upd_upd, upd_ne (ne_of_none hD3 np), upd_ne (ne_of_none hD3 nd)]
      exact hD3
    · rw [List.length_map, hR3.1, List.length_take]
      exact small1000 (Nat.le_trans (Nat.min_le_right _ _) (by decide))
    · have s4 : Same H4 (upd (upd H4 dx (.own p)) p (.ins C dx (ruleF (.str (nameAt i)) (.bl (decide (j = 1)))))) := Same.make np nd
      rw [upd_upd]
      have nDp : H4 D ≠ none := by rw [hD3]; exact fun z => nomatch z
      have s5 : ∀ {u : HO}, Same H (upd (upd (upd H4 dx (.own p)) p (.ins C dx (ruleF (.str (nameAt i)) (.bl (decide (j = 1)))))) D u) := fun {u} c o e => by
        rw [upd_ne (ne_of_none e nD)]
        exact s4 _ _ (s3 _ _ e)
      refine ⟨s5, ?_, rs' ++ [p], by rw [upd_same, List.map_append]; rfl, ?_⟩
      · rw [upd_ne (fun z => by rw [z, hD3] at ht; cases ht)]
        exact s4 _ _ ht
      · rw [row_at i hi4 j hj2]
        have up : ∀ {a : Addr} {n : Str} {b : Bool}, RuleAt C (upd (upd H4 dx (.own p)) p (.ins C dx (ruleF (.str (nameAt i)) (.bl (decide (j = 1)))))) a n b → RuleAt C (upd (upd (upd H4 dx (.own p)) p (.ins C dx (ruleF (.str (nameAt i)) (.bl (decide (j = 1)))))) D (.lst (rs'.map V.ref ++ [.ref p]))) a n b := fun {a n b} ⟨dz, hz⟩ => by
          refine ⟨dz, ?_⟩
          rw [upd_ne (fun z => by
            have := s4 _ _ hD3
            rw [← z, hz] at this
            cases this)]
          exact hz
        refine Rules.snoc ⟨hR3.1, fun m b r h1 h2 => up ((hR3.2 m b r h1 h2).mono s4)⟩ (up ⟨dx, upd_same⟩)
end
end Mine
namespace Mine
open PySem PySem.Spec PyProof.Rows L2
/-- what _law_why makes of the reading tl of the lambda: the pair of "value" and what it gives, or the pair of an error's code and its field -/
def TTwhy (K : PySem.W.Frag) (CS CM : Addr) : (XK → Hp → VK → Prop) → Hp → VK → Prop := fun tl H Q =>
  tl (fun cls d H' => ∃ (c fn : Str) (v : V), PySem.W.exmAny K cls [.ref CS, .ref CM] = some true ∧ ErrAt K cls d H' c fn v ∧ fieldName c = some fn ∧ ∀ (p : Addr) (H2 : Hp), H' p = none → Same H' H2 → H2 p = some (.tup [.str c, v]) → Q (.ref p) H2) H
    (fun v H' => ([V.str "value", v] : List V).length ≤ sizeLine ∧ ∀ p, H' p = none → Q (.ref p) (upd H' p (.tup [.str "value", v])))
structure TxtW (K : PySem.W.Frag) (mg : Str → Option Value) (CS CM fF : Addr) : Prop where
  g_SlopeError : mg "SlopeError" = some (.ref CS)
  g_Missing : mg "Missing" = some (.ref CM)
  g_field : mg "_law_field" = some (.ref fF)
  k_field : PySem.W.keepIn K (.ref fF) = true
theorem why_gives {X : Cx} {g CS CM fF : Addr} {fdF : FuncData} {cdg : Value} {q : Str} (T : TxtW X.K X.mg CS CM fF) (G_field : FnE X.prog X.w X.K X.mg X.base 2 fF fdF ["_law_e"] (spField X.K)) (b_field : Binds X.K fdF ["_law_e"] []) (hr : Room 3 X.A) :
    LamX.GivesTo X ["_law_ask", "_law_e"] "_law_why" (defScope s_L_why) g cdg (defBody s_L_why) "_law_ask" q (TTwhy X.K CS CM) := by
  intro f c' s H Q tl act hc h
  have hr2 : Room 2 (X.A.deeper (envOfC "_law_why" (defScope s_L_why) s.heap.objs.size g cdg)) := hr.deeper _
  refine ⟨_, pss_one (ps_clauses (X := (cxOf C8.CX0 X.prog X.w X.K X.mg X.base ["_law_ask", "_law_e"] "_law_why" (defScope s_L_why) g cdg X.A X.stack s H C8.E0).nox) (Wout := fun _ _ _ _ => False)
      (l := [⟨fun cls => PySem.W.exmAny X.K cls [.ref CS, .ref CM], 1, fun a cls d => tRet (tTup (tCons (tXg X.K a cls d "code" (tVar 1)) (tCons (tCallE (spField X.K) a cls d (tCons (tVar 1) tNil)) tNil)))⟩])
      (tb := fun W D σ H => ∃ Ech : XK, (∀ cls d (σ' : L2.St) H', σ'.length = 2 → Ech cls d H' → W cls d σ' H') ∧ σ[0]? = some (some (.ref f)) ∧ H c' = some (LamX.CodeO c' q) ∧ tl Ech H fun v H1 => ([V.str "value", v] : List V).length ≤ sizeLine ∧ ∀ p, H1 p = none → D.rt (.ref p) (upd H1 p (.tup [.str "value", v])))
      rfl rfl sc_L_why.nd takes0 (fun W pn xe tk _ => ?_) (.cons (test2 ⟨rfl, by decide, .inl T.g_SlopeError⟩ ⟨rfl, by decide, .inl T.g_Missing⟩) rfl rfl (fun a oe cls d pn hz hf => ?_) .nil)), ?_⟩
  · refine ⟨fun pins s' σ H' D I h' => ?_⟩
    obtain ⟨Ech, hW, h1, h2, h3⟩ := h'
    have tk2 : Takes ((cxOf C8.CX0 X.prog X.w X.K X.mg X.base ["_law_ask", "_law_e"] "_law_why" (defScope s_L_why) g cdg X.A X.stack s H C8.E0).tr pn xe) (fun cls d σ' H' => σ'.length = 2 → W cls d σ' H') := by
      rintro u s2 ⟨a, B, sI, pins, σ, H, cls, d, e, J, nb, up, sky, na, os, ag, w⟩
      exact tk u s2 ⟨a, B, sI, pins, σ, H, cls, d, e, J, nb, up, sky, na, os, ag, w J.len⟩
    exact (pss_one (ps_ret (pe_tup (pa_cons pe_str (pa_cons (act (fun cls d σ' H' => σ'.length = 2 → W cls d σ' H') pn xe Ech _ _ tk2 fun cls d σ' H' e l => hW cls d σ' H' l e) pa_nil))))).run pins s' σ H' D I ⟨h1, h2, h3⟩
  · exact pss_one (ps_ret (pe_tup (pa_cons (pe_xg (X := ((cxOf C8.CX0 X.prog X.w X.K X.mg X.base ["_law_ask", "_law_e"] "_law_why" (defScope s_L_why) g cdg X.A X.stack s H C8.E0).nox.suite a ((a, oe) :: pn))) (p := (a, oe)) (List.Mem.head _) hz hf (pv 1)) (pa_cons (pe_callE (X := ((cxOf C8.CX0 X.prog X.w X.K X.mg X.base ["_law_ask", "_law_e"] "_law_why" (defScope s_L_why) g cdg X.A X.stack s H C8.E0).nox.suite a ((a, oe) :: pn))) (p := (a, oe)) G_field ⟨hr2.dp, hr2.un⟩ (List.Mem.head _) hz hf (by rfl) T.g_field T.k_field b_field (pa_cons (pv 1) pa_nil)) pa_nil))))
  · refine ⟨fun cls d H' => ∃ (c fn : Str) (v : V), PySem.W.exmAny X.K cls [.ref CS, .ref CM] = some true ∧ ErrAt X.K cls d H' c fn v ∧ fieldName c = some fn ∧ ∀ (p : Addr) (H2 : Hp), H' p = none → Same H' H2 → H2 p = some (.tup [.str c, v]) → Q (.ref p) H2, fun cls d σ' H' ln z => ?_, rfl, hc, h⟩
    obtain ⟨c, fn, v, em, er, ef, k⟩ := z
    refine ⟨true, em, fun _ a na => ?_, fun z => nomatch z⟩
    obtain ⟨C, dd, fs, ec, X1, n1, n2, ed, hd, l1, l2⟩ := er.ex
    have sl : (σ'.set 1 (some (V.ref a)))[1]? = some (some (V.ref a)) := by simp [ln]
    refine ⟨_, sl, rfl, C, dd, fs, _, ec, X1, n1, ed, hd, l1, _, sl, c, fn, v, rfl, er, ef, fun H2 s2 => ⟨sz2, fun p np => ?_⟩⟩
    exact k p _ (s2.free np) (s2.trans (Same.new np)) upd_same
end Mine
namespace Mine
open PySem PySem.Spec PyProof.Rows L2
/-! ### the law's rows -/
def rn (i : Nat) : Str := (rows8.getD i ("", false)).1
def rb (i : Nat) : Bool := (rows8.getD i ("", false)).2
def textOf (k : Nat) : Str := rn k ++ (if rb k = true then " renewed" else " kept")
theorem text_is : ∀ k, k < 8 → ruleText (rn k) (rb k) = textOf k := by decide +kernel
theorem repr_is : ∀ k, k < 8 → ruleRepr (rn k) (rb k) = "Rule(" ++ textOf k ++ ")" := by decide +kernel
theorem rn_len : ∀ k, k < 8 → (rn k).length ≤ 100 := by decide +kernel
theorem rn_ok : ∀ k, k < 8 → (names4.any fun z => PyData.eqv z (.str (rn k))) = true := by decide +kernel
theorem rn_sh : ∀ k, k < 8 → SeqAt.shaped (.str (rn k)) = true := by decide +kernel
theorem text_len : ∀ k, k < 8 → (textOf k).length ≤ 100 := by decide +kernel
theorem kj_is : ∀ k, k < 8 → ∀ j, j < 8 → (decide (rn k = rn j) && decide (rb k = rb j)) = decide (k = j) := by decide +kernel
theorem rn_even : ∀ i, i < 4 → rn (2 * i) = nameAt i ∧ rb (2 * i) = false ∧ rn (2 * i + 1) = nameAt i ∧ rb (2 * i + 1) = true := by decide +kernel
theorem row_get : ∀ k, k < 8 → rows8[k]? = some (rn k, rb k) := by decide +kernel
theorem int_dec (k j : Nat) : decide (V.int (k : Int) = V.int (j : Int)) = decide (k = j) := by
  by_cases h : k = j
  · rw [decide_eq_true h, h]
    exact decide_eq_true rfl
  · rw [decide_eq_false h]
    exact decide_eq_false fun z => h (by have := V.int.inj z; omega)
/-- the first n rows, in a list at r -/
def RowsN (n : Nat) (H : Hp) (r : Addr) : Prop := ∃ xs : List Addr, H r = some (.lst (xs.map V.ref)) ∧ xs.length = n ∧ ∀ (i : Nat) (t : Addr), xs[i]? = some t → H t = some (.tup [.str (rn i), .bl (rb i)])
theorem RowsN.mono {n : Nat} {H H' : Hp} {r : Addr} (h : RowsN n H r) (e : Same H H') : RowsN n H' r := let ⟨xs, h1, h2, h3⟩ := h; ⟨xs, e _ _ h1, h2, fun i t z => e _ _ (h3 i t z)⟩
theorem RowsN.upd {n : Nat} {H : Hp} {r b : Addr} {ys : List V} {o : HO} (h : RowsN n H r) (ne : r ≠ b) (hb : H b = some (.lst ys)) : RowsN n (L2.upd H b o) r := by
  obtain ⟨xs, h1, h2, h3⟩ := h
  refine ⟨xs, by rw [upd_ne ne]; exact h1, h2, fun i t z => ?_⟩
  have q := h3 i t z
  rw [upd_ne (fun e => by rw [e, hb] at q; cases q)]
  exact q
/-- a list at p of the rows of xs and one more -/
theorem RowsN.snoc {n : Nat} {H : Hp} {xs : List Addr} {t : Addr} (h2 : xs.length = n) (h3 : ∀ (i : Nat) (t : Addr), xs[i]? = some t → H t = some (.tup [.str (rn i), .bl (rb i)])) (ht : H t = some (.tup [.str (rn n), .bl (rb n)])) :
    (xs ++ [t]).length = n + 1 ∧ ∀ (i : Nat) (u : Addr), (xs ++ [t])[i]? = some u → H u = some (.tup [.str (rn i), .bl (rb i)]) := by
  refine ⟨by rw [List.length_append, h2]; rfl, fun i u hu => ?_⟩
  by_cases c : i < xs.length
  · rw [List.getElem?_append_left c] at hu
    exact h3 i u hu
  · rw [List.getElem?_append_right (by omega)] at hu
    cases e : i - xs.length with
    | zero =>
      rw [e] at hu
      cases hu
      obtain rfl : i = n := by omega
      exact ht
    | succ m =>
      rw [e] at hu
      cases hu
def rowsD : List PyData := (List.range 8).map fun i => .tuple [.str (rn i), .bool (rb i)]
theorem dpAll_of {K : PySem.W.Frag} {H : Hp} {f : Nat → PyData} : ∀ (xs : List Addr) (n0 : Nat), (∀ (i : Nat) (t : Addr), xs[i]? = some t → Dp K H (.ref t) (f (n0 + i))) → DpAll K H (xs.map V.ref) ((List.range' n0 xs.length).map f)
  | [], _, _ => .nil
  | x :: xs, n0, h => .cons (h 0 x rfl) (dpAll_of xs (n0 + 1) fun i t z => by
      have := h (i + 1) t z
      rw [show n0 + 1 + i = n0 + (i + 1) by omega]
      exact this)
theorem RowsN.dp {K : PySem.W.Frag} {H : Hp} {r : Addr} (h : RowsN 8 H r) : Dp K H (.ref r) (.list rowsD) := by
  obtain ⟨xs, h1, h2, h3⟩ := h
  refine .lst (SqL.of h1) ?_
  have := dpAll_of (K := K) (H := H) (f := fun i => .tuple [.str (rn i), .bool (rb i)]) xs 0 fun i t z => by
    rw [Nat.zero_add]
    exact .tup (SqT.of (h3 i t z)) (.cons (.str _) (.cons (.bl _) .nil))
  rw [h2, ← List.range_eq_range'] at this
  exact this
theorem rowsD_ok : okD 3 (.list rowsD) = true := by decide +kernel
structure BaseI (Pt b r : Addr) (H : Hp) : Prop where
  bag : Bag H b
  ne : r ≠ b
  rows : RowsN 8 H r
  tab : H Pt = some (.tbl #[])
theorem BaseI.mono {Pt b r : Addr} {H H' : Hp} (h : BaseI Pt b r H) (e : Same H H') : BaseI Pt b r H' := ⟨h.bag.same e, h.ne, h.rows.mono e, e _ _ h.tab⟩
theorem Bag.lst {H : Hp} {b : Addr} (h : Bag H b) : ∃ ys, H b = some (.lst ys) := let ⟨_, _, _, _, _, h, _⟩ := h; ⟨_, h⟩
theorem BaseI.pull {Pt b r : Addr} {H : Hp} {o : HO} (h : BaseI Pt b r H) (hb : Bag (upd H b o) b) : BaseI Pt b r (upd H b o) := by
  obtain ⟨ys, q⟩ := h.bag.lst
  refine ⟨hb, h.ne, h.rows.upd h.ne q, ?_⟩
  rw [upd_ne (fun e => by have := h.tab; rw [e, q] at this; cases this)]
  exact h.tab
theorem BaseI.row {K : PySem.W.Frag} {Pt b r : Addr} {H : Hp} {k : Nat} (h : BaseI Pt b r H) (hk : k < 8) : ∃ (t : Addr) (xs : List V), atI xs (k : Int) = some (.ref t) ∧ ∀ H', Same H H' → SqL K H' r xs ∧ SqT K H' t [.str (rn k), .bl (rb k)] := by
  obtain ⟨xs, h1, h2, h3⟩ := h.rows
  have hlt : k < xs.length := by omega
  refine ⟨xs[k], xs.map V.ref, ?_, fun H' e => ⟨SqL.of (e _ _ h1), SqT.of (e _ _ (h3 k _ (by simp [hlt])))⟩⟩
  unfold atI ixN
  rw [if_pos (by omega), if_pos (by rw [List.length_map]; omega)]
  simp [hlt]
def Mid1 (C Pt a b nm : Addr) (σ : L2.St) (H : Hp) : Prop := ∃ (r : Addr) (c4 : Option V) (k j : Nat) (x y : Addr), σ = [some (.ref a), some (.ref b), some (.ref nm), some (.ref r), c4, some (.int k), some (.int j), some (.ref x), some (.ref y), some (.str (textOf k)), none, none, none] ∧ k < 8 ∧ j < 8 ∧ BaseI Pt b r H ∧ RuleAt C H x (rn k) (rb k) ∧ RuleAt C H y (rn j) (rb j)
theorem nf_self {K : PySem.W.Frag} {C : Addr} : PySem.W.notFirst K C (.ref C) = true := by
  unfold PySem.W.notFirst
  simp
theorem eq_self (n : Str) (b : Bool) : (decide (n = n) && decide (b = b)) = true := by simp
theorem sqL_ext {K : PySem.W.Frag} {H H' : Hp} (e : LamX.ExtN H H') {a : Addr} {xs : List V} (h : SqL K H a xs) : SqL K H' a xs := by
  rcases h with (h | ⟨ob, h⟩) | h
  · exact .inl (.inl (e _ _ h fun _ z => nomatch z))
  · exact .inl (.inr ⟨ob, e _ _ h fun _ z => nomatch z⟩)
  · exact .inr h
theorem sqT_ext {K : PySem.W.Frag} {H H' : Hp} (e : LamX.ExtN H H') {a : Addr} {xs : List V} (h : SqT K H a xs) : SqT K H' a xs := by
  rcases h with (h | ⟨ob, h⟩) | h
  · exact .inl (.inl (e _ _ h fun _ z => nomatch z))
  · exact .inl (.inr ⟨ob, e _ _ h fun _ z => nomatch z⟩)
  · exact .inr h
mutual
theorem dp_ext {K : PySem.W.Frag} {H H' : Hp} (e : LamX.ExtN H H') : ∀ (d : PyData) (v : V), Dp K H v d → Dp K H' v d
  | .none, _, h => by cases h; exact .non
  | .bool b, _, h => by cases h; exact .bl b
  | .int i, _, h => by cases h; exact .int i
  | .str x, _, h => by cases h; exact .str x
  | .list ds, _, h => by
    cases h with
    | lst s a => exact .lst (sqL_ext e s) (dpAll_ext e ds _ a)
  | .tuple ds, _, h => by
    cases h with
    | tup s a => exact .tup (sqT_ext e s) (dpAll_ext e ds _ a)
  | .dict _, _, h => nomatch h
theorem dpAll_ext {K : PySem.W.Frag} {H H' : Hp} (e : LamX.ExtN H H') : ∀ (ds : List PyData) (vs : List V), DpAll K H vs ds → DpAll K H' vs ds
  | [], _, h => by cases h; exact .nil
  | d :: ds, _, h => by
    cases h with
    | cons a b => exact .cons (dp_ext e d _ a) (dpAll_ext e ds _ b)
end
theorem code_get (v : V) : ([("given", v), ("code", V.str "InvalidName")] : List (Str × V)).lookup ("code" : Str) = some (V.str "InvalidName") ∧ ([("given", v), ("code", V.str "InvalidName")] : List (Str × V)).lookup ("given" : Str) = some v := by
  refine ⟨?_, ?_⟩
  · rw [lookup_put, if_neg (by decide +kernel), lookup_put, if_pos rfl]
  · rw [lookup_put, if_pos rfl]
theorem ok_pair {d : PyData} (h : okD 2 d = true) (c : Str) : okD 3 (.tuple [.str c, d]) = true := by
  unfold okD
  rw [List.all_cons, List.all_cons, List.all_nil, h]
  rfl
theorem inv_given : fieldName "InvalidName" = some "given" := by decide +kernel
end Mine
namespace Mine
open PySem PySem.Spec PyProof.Rows L2
structure TxtK (K : PySem.W.Frag) (mg : Str → Option Value) (C aN CE fE fB fP fO fS fW fEq fSt fRe fEv pEv CS CM fF : Addr) (mc : Value) (ocW : Value) (odW anW : Option Addr) (kVW dcW pmW cdW ctW : Value) (slW : Array (Option Value)) : Prop where
  rc : RuleC K mg C aN CE fE
  re : RuleE K mg C
  tw : TxtW K mg CS CM fF
  len : mg "len" = none
  str : mg "str" = none
  repr : mg "repr" = none
  g_bag : mg "_law_bag" = some (.ref fB)
  k_bag : PySem.W.keepIn K (.ref fB) = true
  g_pull : mg "_law_pull" = some (.ref fP)
  k_pull : PySem.W.keepIn K (.ref fP) = true
  g_of : mg "_law_of" = some (.ref fO)
  k_of : PySem.W.keepIn K (.ref fO) = true
  g_same : mg "_law_same" = some (.ref fS)
  k_same : PySem.W.keepIn K (.ref fS) = true
  g_why : mg "_law_why" = some (.ref fW)
  k_why : PySem.W.keepIn K (.ref fW) = true
  l_why : K.lookup fW = some ⟨ocW, odW, .func (PySem.W.fnOf "_law_why" "_law_why" (defArgs s_L_why) (defBody s_L_why) (defScope s_L_why) .none kVW dcW pmW anW cdW ctW), slW⟩
  c_why : PySem.W.codeIn K cdW "_law_why" = true
  s_eq : Spec K C "__eq__" fEq
  ne : PySem.W.findIn K (.ref C) "__ne__" = some (some (.builtin "object.__ne__"))
  mro : PySem.W.mroIn K C (.type "object") = some true
  s_str : Spec K C "__str__" fSt
  s_repr : Spec K C "__repr__" fRe
  rd : ClX.CRead K C mc
  sm : SMet K C mc "every" pEv fEv
  nfS : PySem.W.notFirst K C (.type "str") = true
  ktS : PySem.W.kitOne K (.type "str") (.ref C) = some false
  er : ErrC K mg "InvalidName" "given" CE fE
  em : PySem.W.exmAny K (.ref CE) [.ref CS, .ref CM] = some true
section
variable {P : Program} {w : World} {K : PySem.W.Frag} {mg : Str → Option Value} {base : Heap}
def spLaw (K : PySem.W.Frag) (Pt : Addr) : Sp := fun vs H Q _ => ∃ (a : Addr) (ns : List Int), vs = [.ref a] ∧ SqL K H a (ns.map V.int) ∧ H Pt = some (.tbl #[]) ∧ ∀ H', Q (.bl true) H'
theorem ok_law {f C aN CE fE fB fP fO fS fW fEq fSt fRe fEv pEv CS CM fF fR cL Pt : Addr} {mc ocW kVW dcW pmW cdW ctW : Value} {odW anW : Option Addr} {slW : Array (Option Value)} {fdB fdP fdO fdS fdEq fdSt fdRe fdEv fdF fdR : FuncData} {g1 g2 : List Value → List Value → List Value} {ds1 ds2 : List Value}
    {oc kV doc pm ct : Value} {od an : Option Addr} {osl : Array (Option Value)} (lk : K.lookup f = some ⟨oc, od, .func (PySem.W.fnOf "law" "law" (defArgs s_law) (defBody s_law) (defScope s_law) .none kV doc pm an (.ref cL) ct), osl⟩) (hcd : PySem.W.codeIn K (.ref cL) "law" = true) (TB : LamX.TabB base mg cL Pt)
    (T : TxtK K mg C aN CE fE fB fP fO fS fW fEq fSt fRe fEv pEv CS CM fF mc ocW odW anW kVW dcW pmW cdW ctW slW)
    (G_bag : FnOk P w K mg base CX0 1 fB fdB ["_law_script"] (spBag K)) (b_bag : Binds K fdB ["_law_script"] [])
    (G_pull : FnOk P w K mg base CX0 1 fP fdP ["_law_bag_here", "_law_many"] spPull) (b_pull : Binds K fdP ["_law_bag_here", "_law_many"] [])
    (G_of : FnOk P w K mg base CX0 2 fO fdO ["_law_bag_here", "_law_things"] (spOf K)) (b_of : Binds K fdO ["_law_bag_here", "_law_things"] [])
    (G_same : FnOk P w K mg base CX0 4 fS fdS ["_law_found", "_law_due"] (spSame K 4)) (b_same : Binds K fdS ["_law_found", "_law_due"] [])
    (G_eq : FnOk P w K mg base CX0 1 fEq fdEq ["self", "other"] (spRuleEq K C)) (b_eq : Binds K fdEq ["self", "other"] [])
    (G_str : FnOk P w K mg base CX0 1 fSt fdSt ["self"] (spRuleStr C)) (b_str : Binds K fdSt ["self"] [])
    (G_repr : FnOk P w K mg base CX0 3 fRe fdRe ["self"] (spRuleRepr C)) (b_repr : Binds K fdRe ["self"] [])
    (G_every : FnOk P w K mg base CX0 5 fEv fdEv [] (spEvery C)) (b_every : Binds K fdEv [] [])
    (G_field : FnE P w K mg base 2 fF fdF ["_law_e"] (spField K)) (b_field : Binds K fdF ["_law_e"] [])
    (M_Rule : Mk K C fR) (G_Rule : FnOk P w K mg base (L2.CX P w) 3 fR fdR ["self", "naming", "renewed"] (spRuleInit K C CE))
    (b1_Rule : Vals [.str "new", .bl true] ds1 ∧ Binds K fdR ["self", "naming", "renewed"] ds1) (b2_Rule : Vals [.bl true] ds2 ∧ Binds K fdR ["self", "naming", "renewed"] ds2)
    (kb_Rule : KBn K fdR ["self", "naming", "renewed"] 2 ["renewed"] g1 (fun vs zs => vs ++ zs)) (kc_Rule : KBn K fdR ["self", "naming", "renewed"] 1 ["renewed", "naming"] g2 (fun vs zs => vs ++ zs.reverse))
    (b_why : Binds K (PySem.W.fnOf "_law_why" "_law_why" (defArgs s_L_why) (defBody s_L_why) (defScope s_L_why) .none kVW dcW pmW anW cdW ctW) ["_law_ask"] []) :
    FnOk P w K mg base CX0 7 f (PySem.W.fnOf "law" "law" (defArgs s_law) (defBody s_law) (defScope s_law) .none kV doc pm an (.ref cL) ct) ["_law_script"] (spLaw K Pt) := by
  refine fn_of lk hcd sc_law (fun vs H Q E h => ?_) (fun A outer s H vs Q E hr h => ?_)
  · obtain ⟨_, _, rfl, _⟩ := h
    rfl
  · obtain ⟨a, ns, rfl, hS, hT, k⟩ := h
    have r_bag : Room 1 _ := hr.mono (by decide)
    have r_pull : Room 1 _ := hr.mono (by decide)
    have r_of : Room 2 _ := hr.mono (by decide)
    have r_same : Room 4 _ := hr.mono (by decide)
    have r_eq : Room 1 _ := hr.mono (by decide)
    have r_ne : Room 2 _ := hr.mono (by decide)
    have r_str : Room 3 _ := hr.mono (by decide)
    have r_repr : Room 4 _ := hr.mono (by decide)
    have r_every : Room 5 _ := hr.mono (by decide)
    have r_Rule : Room 4 _ := hr.mono (by decide)
    have r_why : Room 3 _ := hr.mono (by decide)
    have r_lam : Room 6 _ := hr
    refine ⟨_, PSs.nox (pss_cons (ps_set (i := 1) sc_law.nd rfl (Or.inl rfl) (pe_call G_bag r_bag rfl T.g_bag T.k_bag b_bag .nil pass0 (pa_cons (pv 0) pa_nil)))
 (pss_cons (ps_set (i := 2) sc_law.nd rfl (Or.inl rfl) (pe_lst (pa_cons pe_str (pa_cons pe_str (pa_cons pe_str (pa_cons pe_str pa_nil))))))
 (pss_cons (ps_set (i := 3) sc_law.nd rfl (Or.inl rfl) (pe_lst pa_nil))
 (Evl.pss_cut (ps_for PassesOwn.never rfl (pi_list (pv 2)) (pg_name (i := 4) sc_law.nd rfl (Or.inl rfl))
 (pss_one (ps_set (i := 3) sc_law.nd rfl (Or.inl rfl) (pe_op op_cat (pv 3) (pe_lst (pa_cons (pe_tup (pa_cons (pv 4) (pa_cons pe_bl pa_nil))) (pa_cons (pe_tup (pa_cons (pv 4) (pa_cons pe_bl pa_nil))) pa_nil)))))))
 (Evl.pss_cut (ps_par (i := 5) (j := 6) (by rfl) sc_law.nd rfl rfl (by decide) rfl rfl (pa_cons (pe_call G_pull r_pull rfl T.g_pull T.k_pull b_pull .nil pass0 (pa_cons (pv 1) (pa_cons pe_int pa_nil))) (pa_cons (pe_call G_pull r_pull rfl T.g_pull T.k_pull b_pull .nil pass0 (pa_cons (pv 1) (pa_cons pe_int pa_nil))) pa_nil)) (by rfl))
 (Evl.pss_cut (ps_par (i := 7) (j := 8) (by rfl) sc_law.nd rfl rfl (by decide) rfl rfl (pa_cons (pe_makeK M_Rule G_Rule r_Rule rfl T.rc.g_Rule kb_Rule passL (pa_cons (pe_ix ix_tup (pe_ix ix_list (pv 3) (pv 5) (fun _ _ => rfl)) pe_int (fun _ _ => rfl)) pa_nil) (pk_cons (pe_ix ix_tup (pe_ix ix_list (pv 3) (pv 5) (fun _ _ => rfl)) pe_int (fun _ _ => rfl)) pk_nil)) (pa_cons (pe_makeK0 M_Rule G_Rule r_Rule rfl T.rc.g_Rule kc_Rule passL (pk_cons (pe_ix ix_tup (pe_ix ix_list (pv 3) (pv 6) (fun _ _ => rfl)) pe_int (fun _ _ => rfl)) (pk_cons (pe_ix ix_tup (pe_ix ix_list (pv 3) (pv 6) (fun _ _ => rfl)) pe_int (fun _ _ => rfl)) pk_nil))) pa_nil)) (by rfl))
 (Evl.pss_cut (ps_set (i := 9) sc_law.nd rfl (Or.inl rfl) (pe_op op_add_str (pe_ix ix_tup (pe_ix ix_list (pv 3) (pv 5) (fun _ _ => rfl)) pe_int (fun _ _ => rfl)) (pe_ifExp (pt_val (pe_ix ix_tup (pe_ix ix_list (pv 3) (pv 5) (fun _ _ => rfl)) pe_int (fun _ _ => rfl))) pe_str pe_str)))
 (Evl.pss_cut (ps_if (pt_not (pt_val (pe_call G_same r_same rfl T.g_same T.k_same b_same .nil pass0 (pa_cons (pe_lst (pa_cons (pe_fld (pv 7) rfl) (pa_cons (pe_fld (pv 7) rfl) (pa_cons (pe_callTy (call_strO G_str T.s_str r_str b_str) (by rfl) T.str (by decide +kernel) (pa_cons (pv 7) pa_nil)) (pa_cons (pe_callB (call_reprO G_repr T.s_repr r_repr b_repr) (by rfl) T.repr (by decide +kernel) (pa_cons (pv 7) pa_nil)) pa_nil))))) (pa_cons (pe_lst (pa_cons (pe_ix ix_tup (pe_ix ix_list (pv 3) (pv 5) (fun _ _ => rfl)) pe_int (fun _ _ => rfl)) (pa_cons (pe_ix ix_tup (pe_ix ix_list (pv 3) (pv 5) (fun _ _ => rfl)) pe_int (fun _ _ => rfl)) (pa_cons (pv 9) (pa_cons (pe_op op_add_str (pe_op op_add_str pe_str (pv 9)) pe_str) pa_nil))))) pa_nil)))))
 (pss_one (ps_ret pe_bl))
 pss_nil)
 (Evl.pss_cut (ps_if (pt_not (pt_val (pe_call G_same r_same rfl T.g_same T.k_same b_same .nil pass0 (pa_cons (pe_lst (pa_cons (pe_cmpR (op_eqO G_eq T.s_eq r_eq b_eq) (pv 7) (pv 8) (nomark _)) (pa_cons (pe_cmpR (op_neO G_eq T.s_eq T.ne T.mro r_ne b_eq) (pv 7) (pv 8) (nomark _)) (pa_cons (pe_cmpR (op_eqO G_eq T.s_eq r_eq b_eq) (pv 7) (pv 9) (nomark _)) pa_nil)))) (pa_cons (pe_lst (pa_cons (pe_cmpR op_eq (pv 5) (pv 6) (nomark _)) (pa_cons (pe_cmpR op_ne (pv 5) (pv 6) (nomark _)) (pa_cons pe_bl pa_nil)))) pa_nil)))))
 (pss_one (ps_ret pe_bl))
 pss_nil)
 (Evl.pss_cut (ps_set (i := 10) sc_law.nd rfl (Or.inl rfl) (pe_smeth0 (pe_glob (v := .ref _) rfl T.rc.g_Rule rfl) T.rd T.sm G_every r_every b_every .nil pass0))
 (Evl.pss_cut (ps_if (PW.pt (pw_or (pt_not (pt_val (pe_call G_same r_same rfl T.g_same T.k_same b_same .nil pass0 (pa_cons (pe_lc (own := [("_law_rule", 12)]) (g := (gName 12)) (tt := tYes) (te := tTup (tCons (tFld K (tVar 12) "naming") (tCons (tFld K (tVar 12) "renewed") tNil))) rfl sc_law.nd (pi_list (pv 10)) (blkOk_by (own := [("_law_rule", 12)]) (N := ["_law_script", "_law_bag_here", "_law_namings", "_law_rows", "_law_naming", "_law_k", "_law_j", "_law_one", "_law_other", "_law_text", "_law_found", "_law_odd", "_law_rule"]) (sc := defScope s_law) (by decide +kernel)) (fun _ _ _ _ _ => (pg_name (i := 12) sc_law.nd rfl (Or.inl rfl))) (fun _ _ _ _ _ => pts_nil) (fun _ _ _ _ _ => (pe_tup (pa_cons (pe_fld (pv 12) rfl) (pa_cons (pe_fld (pv 12) rfl) pa_nil))))) (pa_cons (pv 3) pa_nil))))) (pw_or1 (pt_cmpR (op_neO G_eq T.s_eq T.ne T.mro r_ne b_eq) (pe_ix ix_list (pv 10) (pv 5) (fun _ _ => rfl)) (pv 7) (nomark _)))))
 (pss_one (ps_ret pe_bl))
 pss_nil)
 (Evl.pss_cut (ps_expr (pe_bm PySem.F.plainAttrs_list PySem.F.slot_list_append PySem.F.type_list_append mt_append (pv 10) (pa_cons pe_non pa_nil)))
 (Evl.pss_cut (ps_if (PW.pt (pw_or (pt_cmpR op_ne (pe_callB call_len_seq (by rfl) T.len PySem.boot_len (pa_cons (pe_smeth0 (pe_glob (v := .ref _) rfl T.rc.g_Rule rfl) T.rd T.sm G_every r_every b_every .nil pass0) pa_nil)) pe_int (nomark _)) (pw_or1 (pt_cmpR (op_neO G_eq T.s_eq T.ne T.mro r_ne b_eq) (pe_make0 M_Rule G_Rule r_Rule rfl T.rc.g_Rule b1_Rule.2 b1_Rule.1 passL) (pe_makeK M_Rule G_Rule r_Rule rfl T.rc.g_Rule kb_Rule passL (pa_cons pe_str pa_nil) (pk_cons pe_bl pk_nil)) (nomark _)))))
 (pss_one (ps_ret pe_bl))
 pss_nil)
 (Evl.pss_cut (ps_set (i := 11) sc_law.nd rfl (Or.inr rfl) (pe_call G_of r_of rfl T.g_of T.k_of b_of .nil pass0 (pa_cons (pv 1) (pa_cons (pe_lst (pa_cons pe_str (pa_cons pe_str (pa_cons pe_str (pa_cons pe_non (pa_cons pe_int (pa_cons pe_bl (pa_cons (pe_lst (pa_cons pe_str pa_nil)) (pa_cons pe_str pa_nil))))))))) pa_nil))))
 (pss_one (ps_ret (pe_call G_same r_same rfl T.g_same T.k_same b_same .nil pass0 (pa_cons (LamX.pe_lamcall (T := [(Pt, "law.<locals>.<lambda>")]) (k := 4) rfl T.g_why T.k_why T.l_why T.c_why b_why sc_L_why rfl (.inl rfl) (why_gives T.tw G_field b_field r_why) TB rfl (List.Mem.head _) (fun p hp _ => by cases hp with | head => rfl | tail _ h => cases h) r_lam (LamX.lamS_by (sc := defScope s_law) (by decide +kernel)) rfl (fun _ _ _ _ _ => rfl) (fun A outer s H E f c' hr => pe_make M_Rule G_Rule hr rfl T.rc.g_Rule b2_Rule.2 b2_Rule.1 (passes_call (takes_of rfl rfl rfl rfl) (fun _ _ _ _ h => h)) (pa_cons (pv 11) pa_nil))) (pa_cons (pe_tup (pa_cons pe_str (pa_cons (pv 11) pa_nil))) pa_nil))))))))))))))))))), ?_⟩
    have e18 : (1 : Nat) ≤ sizeLine := by decide
    -- the bag, the names, no rows yet
    refine ⟨_, rfl, a, ns, rfl, hS, fun b H1 nb s1 hb => ?_⟩
    refine ⟨(by show 4 ≤ sizeLine; decide), fun nm nnm => ?_⟩
    have s2 : Same H1 (upd H1 nm (.lst [.str "one", .str "site", .str "depth", .str "new"])) := Same.new nnm
    refine ⟨(by show 0 ≤ sizeLine; decide), fun r0 nr0 => ?_⟩
    have s3 : Same H1 (upd (upd H1 nm (.lst [.str "one", .str "site", .str "depth", .str "new"])) r0 (.lst [])) := s2.trans (Same.new nr0)
    -- the rows
    refine ⟨fun σ' H' => ∃ (r : Addr) (c4 : Option V), σ' = [some (.ref a), some (.ref b), some (.ref nm), some (.ref r), c4, none, none, none, none, none, none, none, none] ∧ BaseI Pt b r H', ?_, ?_⟩
    · refine ⟨_, rfl, nm, rfl, ⟨_, SqL.of ((Same.new nr0) _ _ upd_same)⟩, ?_⟩
      refine for_list (K := K) (xs := [.str "one", .str "site", .str "depth", .str "new"]) (fun i σ' H' => Same (upd H1 nm (.lst [.str "one", .str "site", .str "depth", .str "new"])) H' ∧ ∃ (r : Addr) (c4 : Option V), σ' = [some (.ref a), some (.ref b), some (.ref nm), some (.ref r), c4, none, none, none, none, none, none, none, none] ∧ H1 r = none ∧ RowsN (2 * i) H' r) ⟨Same.new nr0, r0, none, rfl, s2.free nr0, [], upd_same, rfl, fun i t h => by simp at h⟩
        (fun i σ' H' _ p => SqL.of (p.1 _ _ upd_same)) ?_ ?_
      · rintro i x σ' H' hx ⟨q1, r, c4, rfl, nr, xs, g1, g2, g3⟩
        have hi : i < 4 := (List.getElem?_eq_some_iff.mp hx).1
        have ex := name_at i hi x hx
        subst ex
        obtain ⟨f1, f2, f3, f4⟩ := rn_even i hi
        refine ⟨_, rfl, _, rfl, sz2, fun t1 n1 => ⟨_, rfl, sz2, fun t2 n2 => ⟨sz2, fun q nq => ?_⟩⟩⟩
        have z1 : Same H' (upd H' t1 (.tup [.str (nameAt i), .bl false])) := Same.new n1
        have z2 : Same (upd H' t1 (.tup [.str (nameAt i), .bl false])) (upd (upd H' t1 (.tup [.str (nameAt i), .bl false])) t2 (.tup [.str (nameAt i), .bl true])) := Same.new n2
        have z3 : Same (upd (upd H' t1 (.tup [.str (nameAt i), .bl false])) t2 (.tup [.str (nameAt i), .bl true])) _ := Same.new (o := .lst [.ref t1, .ref t2]) nq
        have z13 := (z1.trans z2).trans z3
        refine ⟨r, q, _, _, rfl, rfl, z13 _ _ g1, upd_same, ?_, fun p np => ?_⟩
        · rw [List.length_map, g2]
          exact szle (by show 2 * i + 2 ≤ 100000; omega)
        · have z4 : Same _ (upd _ p (.lst (xs.map V.ref ++ [.ref t1, .ref t2]))) := Same.new np
          have z := z13.trans z4
          have zn : H1 p = none := s2.free (q1.free (z13.free np))
          refine ⟨q1.trans z, p, _, rfl, zn, xs ++ [t1] ++ [t2], by rw [upd_same, List.map_append, List.map_append, List.append_assoc]; rfl, ?_⟩
          obtain ⟨w1, w2⟩ := RowsN.snoc g2 (fun i t h => z _ _ (g3 i t h)) (t := t1) (by
            rw [f1, f2]
            exact z4 _ _ (z3 _ _ (z2 _ _ upd_same)))
          exact RowsN.snoc (n := 2 * i + 1) w1 w2 (by
            rw [f3, f4]
            exact z4 _ _ (z3 _ _ upd_same))
      · rintro σ' H' ⟨q1, r, c4, rfl, nr, hR⟩
        have qs := s2.trans q1
        refine ⟨r, c4, rfl, hb.same qs, fun e => ?_, hR, qs _ _ (s1 _ _ hT)⟩
        obtain ⟨ys, q⟩ := hb.lst
        rw [← e, nr] at q
        cases q
    rintro σ' H2 ⟨r, c4, rfl, hB⟩
    -- two draws
    refine ⟨fun σ' H' => ∃ (k j : Nat), σ' = [some (.ref a), some (.ref b), some (.ref nm), some (.ref r), c4, some (.int k), some (.int j), none, none, none, none, none, none] ∧ k < 8 ∧ j < 8 ∧ BaseI Pt b r H', ?_, ?_⟩
    · refine ⟨_, rfl, b, 8, rfl, hB.bag, by decide, by decide, fun d o d0 d1 hb1 => ?_⟩
      have hB1 := hB.pull hb1
      refine ⟨_, rfl, b, 8, rfl, hb1, by decide, by decide, fun d' o' d0' d1' hb2 => ?_⟩
      have hB2 := hB1.pull hb2
      obtain ⟨k, rfl⟩ := Int.eq_ofNat_of_zero_le d0
      obtain ⟨j, rfl⟩ := Int.eq_ofNat_of_zero_le d0'
      exact ⟨_, _, rfl, k, j, rfl, by omega, by omega, hB2⟩
    clear hB H2
    rintro σ' H2 ⟨k', j, rfl, hk, hj, hB⟩
    -- two rules
    refine ⟨fun σ' H' => ∃ (x y : Addr), σ' = [some (.ref a), some (.ref b), some (.ref nm), some (.ref r), c4, some (.int k'), some (.int j), some (.ref x), some (.ref y), none, none, none, none] ∧ BaseI Pt b r H' ∧ RuleAt C H' x (rn k') (rb k') ∧ RuleAt C H' y (rn j) (rb j), ?_, ?_⟩
    · obtain ⟨t, xs, hat, hrow⟩ := hB.row (K := K) hk
      obtain ⟨u, ys, hau, hrou⟩ := hB.row (K := K) hj
      obtain ⟨l1, l2⟩ := hrow _ (Same.refl _)
      refine ⟨_, rfl, _, rfl, r, xs, _, _, rfl, rfl, l1, hat, t, _, 0, _, rfl, rfl, l2, rfl, ?_⟩
      refine ⟨_, rfl, _, rfl, r, xs, _, _, rfl, rfl, l1, hat, t, _, 1, _, rfl, rfl, l2, rfl, rfl, rfl, fun x dx nx nd ne => ?_⟩
      refine ⟨x, dx, _, _, .str (rn k'), rfl, upd_same, .str _, rn_sh k' hk, fun _ => ⟨rfl, ?_⟩, fun z => absurd (rn_ok k' hk) (by rw [z]; exact Bool.false_ne_true)⟩
      rw [upd_upd]
      have m1 : Same H2 (upd (upd H2 dx (.own x)) x (.ins C dx (ruleF (.str (rn k')) (.bl (rb k'))))) := Same.make nx nd
      obtain ⟨l3, l4⟩ := hrou _ m1
      refine ⟨_, rfl, _, rfl, r, ys, _, _, rfl, rfl, l3, hau, u, _, 1, _, rfl, rfl, l4, rfl, ?_⟩
      refine ⟨_, rfl, _, rfl, r, ys, _, _, rfl, rfl, l3, hau, u, _, 0, _, rfl, rfl, l4, rfl, rfl, rfl, fun y dy ny nd' ne' => ?_⟩
      refine ⟨y, dy, .str (rn j), .bl (rb j), .str (rn j), rfl, upd_same, .str _, rn_sh j hj, fun _ => ⟨rfl, ?_⟩, fun z => absurd (rn_ok j hj) (by rw [z]; exact Bool.false_ne_true)⟩
      rw [upd_upd]
      have m2 := Same.make (o := .own y) (u := .ins C dy (ruleF (.str (rn j)) (.bl (rb j)))) ny nd'
      exact ⟨_, _, rfl, x, y, rfl, (hB.mono m1).mono m2, RuleAt.mono ⟨dx, upd_same⟩ m2, ⟨dy, upd_same⟩⟩
    clear hB H2
    rintro σ' H2 ⟨x, y, rfl, hB, hx, hy⟩
    -- the text
    refine ⟨Mid1 C Pt a b nm, ?_, ?_⟩
    · obtain ⟨t, xs, hat, hrow⟩ := hB.row (K := K) hk
      obtain ⟨l1, l2⟩ := hrow _ (Same.refl _)
      have sl := text_len k' hk
      refine ⟨_, rfl, _, rfl, r, xs, _, _, rfl, rfl, l1, hat, t, _, 0, _, rfl, rfl, l2, rfl, ?_⟩
      refine ⟨_, rfl, _, rfl, r, xs, _, _, rfl, rfl, l1, hat, t, _, 1, _, rfl, rfl, l2, rfl, _, rfl, ?_⟩
      have fin : Mid1 C Pt a b nm _ H2 := ⟨r, c4, k', j, x, y, rfl, hk, hj, hB, hx, hy⟩
      unfold textOf at sl fin
      cases hbk : rb k' with
      | true =>
        rw [hbk, if_pos rfl, Str.length_append] at sl
        rw [hbk, if_pos rfl] at fin
        exact ⟨_, _, rfl, rfl, szle (by omega), fin⟩
      | false =>
        rw [hbk, if_neg Bool.false_ne_true, Str.length_append] at sl
        rw [hbk, if_neg Bool.false_ne_true] at fin
        exact ⟨_, _, rfl, rfl, szle (by omega), fin⟩
    clear hB H2 hx hy hk hj c4 r
    clear x y k' j
    rintro σ' H2 ⟨r, c4, k', j, x, y, rfl, hk, hj, hB, hx, hy⟩
    -- what a rule tells
    refine ⟨Mid1 C Pt a b nm, ?_, ?_⟩
    · obtain ⟨t, xs, hat, hrow⟩ := hB.row (K := K) hk
      obtain ⟨dx, gx⟩ := hx
      have nl := rn_len k' hk
      have tl := text_len k' hk
      have l5 : ("Rule(" : Str).length = 5 := by decide +kernel
      have l6 : (")" : Str).length = 1 := by decide +kernel
      refine ⟨_, rfl, x, C, dx, _, _, rfl, gx, T.rc.cl, T.rc.nN, ruleF_naming _ _, ?_⟩
      refine ⟨_, rfl, x, C, dx, _, _, rfl, gx, T.rc.cl, T.rc.nR, ruleF_renewed _ _, ?_⟩
      refine ⟨_, rfl, _, rfl, x, dx, _, rfl, gx, x, _, _, rfl, ⟨dx, gx⟩, nl, _, rfl, ?_⟩
      refine ⟨_, rfl, _, rfl, x, dx, _, rfl, gx, x, _, _, rfl, ⟨dx, gx⟩, nl, _, rfl, (by show 4 ≤ sizeLine; decide), fun p np => ?_⟩
      rw [text_is k' hk, repr_is k' hk] at *
      have z1 : Same H2 _ := Same.new (o := .lst [.str (rn k'), .bl (rb k'), .str (textOf k'), .str ("Rule(" ++ textOf k' ++ ")")]) np
      obtain ⟨l1, l2⟩ := hrow _ z1
      refine ⟨_, rfl, _, rfl, r, xs, _, _, rfl, rfl, l1, hat, t, _, 0, _, rfl, rfl, l2, rfl, ?_⟩
      refine ⟨_, rfl, _, rfl, r, xs, _, _, rfl, rfl, l1, hat, t, _, 1, _, rfl, rfl, l2, rfl, _, rfl, ?_⟩
      refine ⟨_, rfl, _, _, rfl, rfl, szle (by omega), _, _, rfl, rfl, szle (by rw [Str.length_append]; omega), (by show 4 ≤ sizeLine; decide), fun q nq => ?_⟩
      have z2 := z1.trans (Same.new (o := .lst [.str (rn k'), .bl (rb k'), .str (textOf k'), .str ("Rule(" ++ textOf k' ++ ")")]) nq)
      have da : ∀ Hz, DpAll K Hz [.str (rn k'), .bl (rb k'), .str (textOf k'), .str ("Rule(" ++ textOf k' ++ ")")] [.str (rn k'), .bool (rb k'), .str (textOf k'), .str ("Rule(" ++ textOf k' ++ ")")] := fun _ => .cons (.str _) (.cons (.bl _) (.cons (.str _) (.cons (.str _) .nil)))
      refine ⟨_, _, .list [.str (rn k'), .bool (rb k'), .str (textOf k'), .str ("Rule(" ++ textOf k' ++ ")")], rfl, .lst (SqL.of ((Same.new nq) _ _ upd_same)) (da _), .lst (SqL.of upd_same) (da _), rfl, fun H3 z3 => ?_⟩
      have z := z2.trans z3
      exact ⟨_, rfl, r, c4, k', j, x, y, rfl, hk, hj, hB.mono z, RuleAt.mono ⟨dx, gx⟩ z, hy.mono z⟩
    clear hB H2 hx hy hk hj c4 r
    clear x y k' j
    rintro σ' H2 ⟨r, c4, k', j, x, y, rfl, hk, hj, hB, hx, hy⟩
    -- rules alike and unlike
    refine ⟨Mid1 C Pt a b nm, ?_, ?_⟩
    · obtain ⟨dx, gx⟩ := hx
      obtain ⟨dy, gy⟩ := hy
      refine ⟨_, rfl, _, rfl, x, dx, _, .ref C, rfl, gx, T.re.tyi _ _ _ _ gy, nf_self, x, _, _, _, rfl, ⟨dx, gx⟩, .inl ⟨y, _, _, rfl, ⟨dy, gy⟩, _, rfl, ?_⟩⟩
      refine ⟨_, rfl, _, rfl, x, dx, _, .ref C, rfl, gx, T.re.tyi _ _ _ _ gy, nf_self, x, _, _, _, rfl, ⟨dx, gx⟩, .inl ⟨y, _, _, rfl, ⟨dy, gy⟩, _, rfl, ?_⟩⟩
      refine ⟨_, rfl, _, rfl, x, dx, _, .type "str", rfl, gx, .base (.str _), T.nfS, x, _, _, _, rfl, ⟨dx, gx⟩, .inr ⟨_, .base (.str _), T.ktS, _, rfl, (by show 3 ≤ sizeLine; decide), fun p np => ?_⟩⟩
      refine ⟨_, rfl, _, rfl, rfl, _, rfl, _, rfl, rfl, (by show 3 ≤ sizeLine; decide), fun q nq => ?_⟩
      have hl : ∀ e : Bool, e = decide (k' = j) → ∀ Hz : Hp, DpAll K Hz [.bl e, .bl (!e), .bl false] [.bool (decide (k' = j)), .bool (!decide (k' = j)), .bool false] := fun e h Hz => by rw [h]; exact .cons (.bl _) (.cons (.bl _) (.cons (.bl _) .nil))
      refine ⟨_, _, .list [.bool (decide (k' = j)), .bool (!decide (k' = j)), .bool false], rfl, .lst (SqL.of ((Same.new nq) _ _ upd_same)) (hl _ (kj_is k' hk j hj) _), .lst (SqL.of upd_same) (hl _ (int_dec k' j) _), rfl, fun H3 z3 => ?_⟩
      have z : Same H2 H3 := ((Same.new np).trans (Same.new nq)).trans z3
      exact ⟨_, rfl, r, c4, k', j, x, y, rfl, hk, hj, hB.mono z, RuleAt.mono ⟨dx, gx⟩ z, RuleAt.mono ⟨dy, gy⟩ z⟩
    clear hB H2 hx hy hk hj c4 r
    clear x y k' j
    rintro σ' H2 ⟨r, c4, k', j, x, y, rfl, hk, hj, hB, hx, hy⟩
    -- every rule
    refine ⟨fun σ' H' => ∃ (p : Addr) (rs : List Addr), σ' = [some (.ref a), some (.ref b), some (.ref nm), some (.ref r), c4, some (.int k'), some (.int j), some (.ref x), some (.ref y), some (.str (textOf k')), some (.ref p), none, none] ∧ H2 p = none ∧ Same H2 H' ∧ H' p = some (.lst (rs.map V.ref)) ∧ Rules C H' rs rows8, ?_, ?_⟩
    · exact ⟨rfl, rfl, fun p rs H' np s1 hp hR => ⟨p, rs, rfl, np, s1, hp, hR⟩⟩
    rintro σ' H3 ⟨p, rs, rfl, np, z3, hp, hR⟩
    have hB3 := hB.mono z3
    refine ⟨fun σ' H' => ∃ (rs : List Addr), σ' = [some (.ref a), some (.ref b), some (.ref nm), some (.ref r), c4, some (.int k'), some (.int j), some (.ref x), some (.ref y), some (.str (textOf k')), some (.ref p), none, none] ∧ Same H2 H' ∧ H' p = some (.lst (rs.map V.ref)) ∧ rs.length = 8, ?_, ?_⟩
    · refine ⟨_, rfl, p, rfl, ⟨_, SqL.of hp⟩, fun D nD => ?_⟩
      refine lc_list (K := K) (xs := rs.map V.ref) (fun i H' => Same H3 H' ∧ RowsN i H' D) ⟨Same.new nD, [], upd_same, rfl, fun i t h => by simp at h⟩ (fun i H' _ q => SqL.of (q.1 _ _ hp)) ?_ ?_
      · rintro i v H4 hv ⟨z4, ts, g1, g2, g3⟩
        rw [List.getElem?_map] at hv
        obtain ⟨c, hc, rfl⟩ := Option.map_eq_some_iff.mp hv
        have hi : i < 8 := by have := (List.getElem?_eq_some_iff.mp hc).1; rw [hR.1] at this; exact this
        obtain ⟨dc, gc⟩ := (hR.2 i c _ hc (row_get i hi)).mono z4
        refine ⟨rfl, _, rfl, c, C, dc, _, _, rfl, gc, T.rc.cl, T.rc.nN, ruleF_naming _ _, _, rfl, c, C, dc, _, _, rfl, gc, T.rc.cl, T.rc.nR, ruleF_renewed _ _, sz2, fun t nt => ⟨_, (Same.new nt) _ _ g1, ?_, ?_, ?_⟩⟩
        · rw [List.length_map, g2]
          exact small1000 (by omega)
        · intro c' o' e
          rw [upd_ne (ne_of_none e nD)]
          exact (Same.new nt) _ _ (z4 _ _ e)
        · have up : ∀ (m : Nat) (u : Addr), ts[m]? = some u → upd (upd H4 t (.tup [.str (rn i), .bl (rb i)])) D (.lst (ts.map V.ref ++ [.ref t])) u = some (.tup [.str (rn m), .bl (rb m)]) := fun m u hu => by
            have q := g3 m u hu
            rw [upd_ne (fun e => by rw [e, g1] at q; cases q)]
            exact (Same.new nt) _ _ q
          obtain ⟨w1, w2⟩ := RowsN.snoc g2 up (t := t) (by rw [upd_ne (fun e => by rw [e, g1] at nt; cases nt), upd_same])
          exact ⟨ts ++ [t], by rw [upd_same, List.map_append]; rfl, w1, w2⟩
      · rintro H4 ⟨z4, hRN⟩
        have l8 : (rs.map V.ref).length = 8 := by rw [List.length_map, hR.1]; rfl
        rw [l8] at hRN
        refine ⟨_, rfl, _, _, .list rowsD, rfl, hRN.dp, (hB3.rows.mono z4).dp, rowsD_ok, fun H5 z5 => ?_⟩
        have z35 := z4.trans z5
        have hlt : k' < rs.length := by rw [List.length_map] at l8; omega
        have hat : atI (rs.map V.ref) (k' : Int) = some (.ref rs[k']) := by
          unfold atI ixN
          rw [if_pos (by omega), if_pos (by omega)]
          simp [hlt]
        obtain ⟨dz, gz⟩ := (hR.2 k' rs[k'] _ (by simp [hlt]) (row_get k' hk)).mono z35
        obtain ⟨dx, gx⟩ := hx.mono (z3.trans z35)
        refine ⟨_, rfl, _, rfl, _, rfl, p, _, _, _, rfl, rfl, SqL.of (z35 _ _ hp), hat, _, rfl, rs[k'], dz, _, .ref C, rfl, gz, T.re.tyi _ _ _ _ gx, nf_self, rs[k'], _, _, _, rfl, ⟨dz, gz⟩, .inl ⟨x, _, _, rfl, ⟨dx, gx⟩, _, rfl, _, rfl, ?_⟩⟩
        rw [eq_self]
        exact ⟨rs, rfl, z3.trans z35, z35 _ _ hp, by rw [List.length_map] at l8; exact l8⟩
    rintro σ' H4 ⟨rs', rfl, z4, hp4, l8⟩
    -- found.append(None)
    refine ⟨fun σ' H' => σ' = [some (.ref a), some (.ref b), some (.ref nm), some (.ref r), c4, some (.int k'), some (.int j), some (.ref x), some (.ref y), some (.str (textOf k')), some (.ref p), none, none] ∧ Same H2 H', ?_, ?_⟩
    · refine ⟨_, rfl, ?_, p, _, _, rfl, rfl, hp4, ?_, rfl, fun c o e => ?_⟩
      · exact .inl ⟨rfl, _, SqL.of hp4⟩
      · rw [List.length_map, l8]
        decide
      · rw [upd_ne (ne_of_none e np)]
        exact z4 _ _ e
    rintro σ' H5 ⟨rfl, z5⟩
    have hB5 := hB.mono z5
    refine ⟨fun σ' H' => σ' = [some (.ref a), some (.ref b), some (.ref nm), some (.ref r), c4, some (.int k'), some (.int j), some (.ref x), some (.ref y), some (.str (textOf k')), some (.ref p), none, none] ∧ Same H5 H', ?_, ?_⟩
    · refine ⟨rfl, rfl, fun p2 rs2 H6 np2 z6 hp2 hR2 => ?_⟩
      refine ⟨p2, _, rfl, .inl (SqL.of hp2), rfl, _, rfl, ?_⟩
      have e8 : decide (V.int ((rs2.map V.ref).length : Int) = V.int 8) = true := decide_eq_true (by rw [List.length_map, hR2.1]; rfl)
      rw [e8]
      intro x1 d1 nx1 nd1 ne1
      refine ⟨x1, d1, .str "new", .bl true, .str "new", rfl, upd_same, .str _, (by decide +kernel), fun _ => ⟨rfl, ?_⟩, fun z => absurd z (by decide +kernel)⟩
      rw [upd_upd]
      have m1 := Same.make (o := .own x1) (u := .ins C d1 (ruleF (.str "new") (.bl true))) nx1 nd1
      refine ⟨rfl, rfl, fun x2 d2 nx2 nd2 ne2 => ⟨x2, d2, .str "new", .bl true, .str "new", rfl, upd_same, .str _, (by decide +kernel), fun _ => ⟨rfl, ?_⟩, fun z => absurd z (by decide +kernel)⟩⟩
      rw [upd_upd]
      have m2 := Same.make (o := .own x2) (u := .ins C d2 (ruleF (.str "new") (.bl true))) nx2 nd2
      refine ⟨x1, d1, _, .ref C, rfl, m2 _ _ upd_same, T.re.tyi _ _ _ _ upd_same, nf_self, x1, _, _, _, rfl, ⟨d1, m2 _ _ upd_same⟩, .inl ⟨x2, _, _, rfl, ⟨d2, upd_same⟩, _, rfl, _, rfl, ?_⟩⟩
      rw [eq_self]
      exact ⟨rfl, (z6.trans m1).trans m2⟩
    rintro σ' H6 ⟨rfl, z6⟩
    have hB6 := hB5.mono z6
    -- odd
    refine ⟨fun σ' H' => ∃ (v : V) (d : PyData), σ'[11]? = some (some v) ∧ Dp K H' v d ∧ SeqAt.shaped d = true ∧ (names4.any fun z => PyData.eqv z d) = false ∧ okD 2 d = true ∧ H' Pt = some (.tbl #[]), ?_, ?_⟩
    · refine ⟨_, rfl, (by show 1 ≤ sizeLine; decide), fun q nq => ⟨(by show 8 ≤ sizeLine; decide), fun p8 np8 => ?_⟩⟩
      have z7 := (Same.new (o := .lst [.str "one"]) nq).trans (Same.new (o := .lst [.str "", .str "New", .str "none", .non, .int 1, .bl true, .ref q, .str "one kept"]) np8)
      have hB7 := hB6.mono z7
      refine ⟨b, p8, _, rfl, hB7.bag, SqL.of upd_same, ?_, (by show 0 < 8; decide), (by show 8 < 1000; decide), fun jj v o hv hb8 => ?_⟩
      · intro e
        obtain ⟨ys, hy6⟩ := hB6.bag.lst
        rw [← e] at hy6
        have := (Same.new (o := .lst [.str "one"]) nq) _ _ hy6
        rw [np8] at this
        cases this
      · have hT8 := (hB7.pull hb8).tab
        have hj8 : jj < 8 := (List.getElem?_eq_some_iff.mp hv).1
        match jj, hj8, hv with
        | 0, _, hv => cases hv; exact ⟨_, .str "", rfl, .str _, by decide +kernel, by decide +kernel, rfl, hT8⟩
        | 1, _, hv => cases hv; exact ⟨_, .str "New", rfl, .str _, by decide +kernel, by decide +kernel, rfl, hT8⟩
        | 2, _, hv => cases hv; exact ⟨_, .str "none", rfl, .str _, by decide +kernel, by decide +kernel, rfl, hT8⟩
        | 3, _, hv => cases hv; exact ⟨_, .none, rfl, .non, by decide +kernel, by decide +kernel, rfl, hT8⟩
        | 4, _, hv => cases hv; exact ⟨_, .int 1, rfl, .int _, by decide +kernel, by decide +kernel, rfl, hT8⟩
        | 5, _, hv => cases hv; exact ⟨_, .bool true, rfl, .bl _, by decide +kernel, by decide +kernel, rfl, hT8⟩
        | 6, _, hv =>
          cases hv
          refine ⟨_, .list [.str "one"], rfl, .lst (sqL_upd (fun e => ?_) (SqL.of ((Same.new np8) _ _ upd_same))) (.cons (.str _) .nil), by decide +kernel, by decide +kernel, rfl, hT8⟩
          obtain ⟨ys, hy6⟩ := hB6.bag.lst
          rw [← e, nq] at hy6
          cases hy6
        | 7, _, hv => cases hv; exact ⟨_, .str "one kept", rfl, .str _, by decide +kernel, by decide +kernel, rfl, hT8⟩
    rintro σ' H7 ⟨v, d, hv, hd, sd, nd, od', hT7⟩
    refine ⟨fun q hq => ?_, fun H8 x8 _ => ?_⟩
    · cases hq with
      | head => exact ⟨#[], hT7, trivial, fun pos cv h => by cases h⟩
      | tail _ h => cases h
    · refine ⟨_, hv, fun x1 d1 nx1 nd1 ne1 => ?_⟩
      have m1 : Same H8 (upd (upd H8 d1 (.own x1)) x1 (.ins C d1 [])) := Same.make nx1 nd1
      have hd1 := dp_mono m1 _ _ (dp_ext x8 _ _ hd)
      refine ⟨x1, d1, v, .bl true, d, rfl, upd_same, hd1, sd, fun z => absurd z (by rw [nd]; exact Bool.false_ne_true), fun _ e ne => ?_⟩
      have hd2 := dp_mono (Same.new (o := .xd [("given", v), ("code", .str "InvalidName")]) ne) _ _ hd1
      refine ⟨"InvalidName", "given", v, T.em, ⟨CE, e, _, rfl, T.er.xf, T.er.nc, T.er.nf, rfl, upd_same, (code_get v).1, (code_get v).2⟩, inv_given, fun p H9 np s9 hp => ?_⟩
      have hd9 := dp_mono s9 _ _ hd2
      refine ⟨_, hv, sz2, fun t nt => ⟨_, _, .tuple [.str "InvalidName", d], rfl, ?_, ?_, ok_pair od' _, fun H' _ => k H'⟩⟩
      · exact .tup (SqT.of ((Same.new nt) _ _ hp)) (.cons (.str _) (.cons (dp_mono (Same.new nt) _ _ hd9) .nil))
      · exact .tup (SqT.of upd_same) (.cons (.str _) (.cons (dp_mono (Same.new nt) _ _ hd9) .nil))
end
end Mine
namespace Mine
open PySem PySem.Spec PyProof.Rows L2
theorem all_mk {l : PySem.W.OpenLaw} {w : World} {K : PySem.W.Frag} {h : Heap} {mg : Str → Option Value} {fa : Addr} (X : K.In h) (G : h.Ns mainGlobals mg) (hfa : mg "law" = some (.ref fa)) (own : LamX.OwnTab K fa h)
    {C aN CE CS CM cz Pt pEv TR DR : Addr} {mc : Value} {rest : List Value} {fB : Addr} {ocB dcB pmB ctB kVB cdB : Value} {odB anB : Option Addr} {slB : Array (Option Value)} {fP : Addr} {ocP dcP pmP ctP kVP cdP : Value} {odP anP : Option Addr} {slP : Array (Option Value)} {fO : Addr} {ocO dcO pmO ctO kVO cdO : Value} {odO anO : Option Addr} {slO : Array (Option Value)} {fS : Addr} {ocS dcS pmS ctS kVS cdS : Value} {odS anS : Option Addr} {slS : Array (Option Value)} {fF : Addr} {ocF dcF pmF ctF kVF cdF : Value} {odF anF : Option Addr} {slF : Array (Option Value)} {fX : Addr} {ocX dcX pmX ctX kVX cdX : Value} {odX anX : Option Addr} {slX : Array (Option Value)} {fW : Addr} {ocW dcW pmW ctW kVW cdW : Value} {odW anW : Option Addr} {slW : Array (Option Value)} {fL : Addr} {ocL dcL pmL ctL kVL : Value} {odL anL : Option Addr} {slL : Array (Option Value)} {fE : Addr} {ocE dcE pmE ctE kVE cdE : Value} {odE anE : Option Addr} {slE : Array (Option Value)} {fR : Addr} {ocR dcR pmR ctR cdR : Value} {odR anR : Option Addr} {slR : Array (Option Value)} {fQ : Addr} {ocQ dcQ pmQ ctQ kVQ cdQ : Value} {odQ anQ : Option Addr} {slQ : Array (Option Value)} {fT : Addr} {ocT dcT pmT ctT kVT cdT : Value} {odT anT : Option Addr} {slT : Array (Option Value)} {fU : Addr} {ocU dcU pmU ctU kVU cdU : Value} {odU anU : Option Addr} {slU : Array (Option Value)} {t0 t1 t2 t3 t4 : Tok} {nN nT : Nat} {odN odT0 : Option Addr} {slN slT0 : Array (Option Value)} {fV : Addr} {ocV dcV pmV ctV kVV cdV : Value} {odV anV : Option Addr} {slV : Array (Option Value)} {nmCE qCE : Str} {NCE : Addr} {bsCE bmCE : List Value} {snCE : List Str} {subCE : List Value} {abCE : Bool} {colCE : Option Bool} {ddCE : Option Addr} {m0CE m1CE m2CE m3CE m5CE : Option Value} {cdo : Value} {cdd : Option Addr} {cvs : Array Value} {csl : Array (Option Value)}
    (aC : PySem.W.nsIn K mainGlobals "Rule" = some (some (.ref C)))
    (aCE : PySem.W.nsIn K mainGlobals "InvalidName" = some (some (.ref CE)))
    (aCS : PySem.W.nsIn K mainGlobals "SlopeError" = some (some (.ref CS)))
    (aCM : PySem.W.nsIn K mainGlobals "Missing" = some (some (.ref CM)))
    (aaN : PySem.W.nsIn K mainGlobals "NAMINGS" = some (some (.ref aN)))
    (aB : PySem.W.nsIn K mainGlobals "_law_bag" = some (some (.ref fB)))
    (lB : K.lookup fB = some ⟨ocB, odB, .func (PySem.W.fnOf "_law_bag" "_law_bag" (defArgs s_L_bag) (defBody s_L_bag) (defScope s_L_bag) .none kVB dcB pmB anB cdB ctB), slB⟩)
    (cB : PySem.W.codeIn K cdB "_law_bag" = true)
    (kB : PySem.W.keepIn K (.ref fB) = true)
    (aP : PySem.W.nsIn K mainGlobals "_law_pull" = some (some (.ref fP)))
    (lP : K.lookup fP = some ⟨ocP, odP, .func (PySem.W.fnOf "_law_pull" "_law_pull" (defArgs s_L_pull) (defBody s_L_pull) (defScope s_L_pull) .none kVP dcP pmP anP cdP ctP), slP⟩)
    (cP : PySem.W.codeIn K cdP "_law_pull" = true)
    (kP : PySem.W.keepIn K (.ref fP) = true)
    (aO : PySem.W.nsIn K mainGlobals "_law_of" = some (some (.ref fO)))
    (lO : K.lookup fO = some ⟨ocO, odO, .func (PySem.W.fnOf "_law_of" "_law_of" (defArgs s_L_of) (defBody s_L_of) (defScope s_L_of) .none kVO dcO pmO anO cdO ctO), slO⟩)
    (cO : PySem.W.codeIn K cdO "_law_of" = true)
    (kO : PySem.W.keepIn K (.ref fO) = true)
    (aS : PySem.W.nsIn K mainGlobals "_law_same" = some (some (.ref fS)))
    (lS : K.lookup fS = some ⟨ocS, odS, .func (PySem.W.fnOf "_law_same" "_law_same" (defArgs s_L_same) (defBody s_L_same) (defScope s_L_same) .none kVS dcS pmS anS cdS ctS), slS⟩)
    (cS : PySem.W.codeIn K cdS "_law_same" = true)
    (kS : PySem.W.keepIn K (.ref fS) = true)
    (aF : PySem.W.nsIn K mainGlobals "_law_field" = some (some (.ref fF)))
    (lF : K.lookup fF = some ⟨ocF, odF, .func (PySem.W.fnOf "_law_field" "_law_field" (defArgs s_L_field) (defBody s_L_field) (defScope s_L_field) .none kVF dcF pmF anF cdF ctF), slF⟩)
    (cF : PySem.W.codeIn K cdF "_law_field" = true)
    (kF : PySem.W.keepIn K (.ref fF) = true)
    (aX : PySem.W.nsIn K mainGlobals "_law_other_field" = some (some (.ref fX)))
    (lX : K.lookup fX = some ⟨ocX, odX, .func (PySem.W.fnOf "_law_other_field" "_law_other_field" (defArgs s_L_other_field) (defBody s_L_other_field) (defScope s_L_other_field) .none kVX dcX pmX anX cdX ctX), slX⟩)
    (cX : PySem.W.codeIn K cdX "_law_other_field" = true)
    (kX : PySem.W.keepIn K (.ref fX) = true)
    (aW : PySem.W.nsIn K mainGlobals "_law_why" = some (some (.ref fW)))
    (lW : K.lookup fW = some ⟨ocW, odW, .func (PySem.W.fnOf "_law_why" "_law_why" (defArgs s_L_why) (defBody s_L_why) (defScope s_L_why) .none kVW dcW pmW anW cdW ctW), slW⟩)
    (cW : PySem.W.codeIn K cdW "_law_why" = true)
    (kW : PySem.W.keepIn K (.ref fW) = true)
    (aL : PySem.W.nsIn K mainGlobals "law" = some (some (.ref fL)))
    (lL : K.lookup fL = some ⟨ocL, odL, .func (PySem.W.fnOf "law" "law" (defArgs s_law) (defBody s_law) (defScope s_law) .none kVL dcL pmL anL (.ref cz) ctL), slL⟩)
    (cL : PySem.W.codeIn K (.ref cz) "law" = true)
    (kL : PySem.W.keepIn K (.ref fL) = true)
    (aE : PySem.W.findIn K (.ref CE) "__init__" = some (some (.ref fE)))
    (lE : K.lookup fE = some ⟨ocE, odE, .func (PySem.W.fnOf "__init__" "InvalidName.__init__" (defArgs s_InvalidName_D_initD_) (defBody s_InvalidName_D_initD_) (defScope s_InvalidName_D_initD_) .none kVE dcE pmE anE cdE ctE), slE⟩)
    (cE : PySem.W.codeIn K cdE "InvalidName.__init__" = true)
    (kE : PySem.W.keepIn K (.ref fE) = true)
    (aR : PySem.W.findIn K (.ref C) "__init__" = some (some (.ref fR)))
    (lR : K.lookup fR = some ⟨ocR, odR, .func (PySem.W.fnOf "__init__" "Rule.__init__" (defArgs s_Rule_D_initD_) (defBody s_Rule_D_initD_) (defScope s_Rule_D_initD_) (.ref TR) (.ref DR) dcR pmR anR cdR ctR), slR⟩)
    (cR : PySem.W.codeIn K cdR "Rule.__init__" = true)
    (kR : PySem.W.keepIn K (.ref fR) = true)
    (aQ : PySem.W.findIn K (.ref C) "__eq__" = some (some (.ref fQ)))
    (lQ : K.lookup fQ = some ⟨ocQ, odQ, .func (PySem.W.fnOf "__eq__" "Rule.__eq__" (defArgs s_Rule_D_eqD_) (defBody s_Rule_D_eqD_) (defScope s_Rule_D_eqD_) .none kVQ dcQ pmQ anQ cdQ ctQ), slQ⟩)
    (cQ : PySem.W.codeIn K cdQ "Rule.__eq__" = true)
    (kQ : PySem.W.keepIn K (.ref fQ) = true)
    (aT : PySem.W.findIn K (.ref C) "__str__" = some (some (.ref fT)))
    (lT : K.lookup fT = some ⟨ocT, odT, .func (PySem.W.fnOf "__str__" "Rule.__str__" (defArgs s_Rule_D_strD_) (defBody s_Rule_D_strD_) (defScope s_Rule_D_strD_) .none kVT dcT pmT anT cdT ctT), slT⟩)
    (cT : PySem.W.codeIn K cdT "Rule.__str__" = true)
    (kT : PySem.W.keepIn K (.ref fT) = true)
    (aU : PySem.W.findIn K (.ref C) "__repr__" = some (some (.ref fU)))
    (lU : K.lookup fU = some ⟨ocU, odU, .func (PySem.W.fnOf "__repr__" "Rule.__repr__" (defArgs s_Rule_D_reprD_) (defBody s_Rule_D_reprD_) (defScope s_Rule_D_reprD_) .none kVU dcU pmU anU cdU ctU), slU⟩)
    (cU : PySem.W.codeIn K cdU "Rule.__repr__" = true)
    (kU : PySem.W.keepIn K (.ref fU) = true)
    (iR : PySem.W.isFn K (.ref fR) = true)
    (iQ : PySem.W.isFn K (.ref fQ) = true)
    (iT : PySem.W.isFn K (.ref fT) = true)
    (iU : PySem.W.isFn K (.ref fU) = true)
    (tE : PySem.W.typeIn K (.ref fE) = some (.type "function"))
    (lN : K.lookup aN = some ⟨.type "tuple", odN, .seq #[.str "one" t1, .str "site" t2, .str "depth" t3, .str "new" t4] nN, slN⟩)
    (lT0 : K.lookup TR = some ⟨.type "tuple", odT0, .seq #[.str "new" t0] nT, slT0⟩)
    (dR : PySem.W.nsIn K DR "renewed" = some (some (.bool true)))
    (pgC : PySem.W.plainGet K C Str.empty = true)
    (hdC : PySem.W.hasDictIn K C = true)
    (poC : PySem.W.plainOver K C = true)
    (saC : PySem.W.findIn K (.ref C) "__setattr__" = some (some (.builtin "object.__setattr__")))
    (mkC : PySem.W.makesIn K C = true)
    (kcC : PySem.W.keepIn K (.ref C) = true)
    (haC : PySem.W.findIn K (.ref C) "__class__" = some (some (.builtin "object.__class__")))
    (hmC : PySem.W.mroIn K C (.type "object") = some true)
    (nC_naming : PySem.W.findIn K (.ref C) "naming" = some none)
    (nC_renewed : PySem.W.findIn K (.ref C) "renewed" = some none)
    (hn : PySem.W.specialIn K (.builtin "object.__class__") "__get__" = some (some (.builtin "getset_descriptor.__get__")))
    (htk : PySem.W.takesIn K (.builtin "object.__class__") = some true)
    (ne : PySem.W.findIn K (.ref C) "__ne__" = some (some (.builtin "object.__ne__")))
    (fm : PySem.W.findIn K (.ref C) "__format__" = some (some (.builtin "object.__format__")))
    (nfS : PySem.W.notFirst K C (.type "str") = true)
    (ktS : PySem.W.kitOne K (.type "str") (.ref C) = some false)
    (tyC : PySem.W.typeIn K (.ref C) = some mc)
    (rdC : PySem.W.readsIn K C mc = true)
    (gaC : PySem.W.specialIn K (.ref C) "__getattribute__" = some (some (.builtin "type.__getattribute__")))
    (ev : PySem.W.findCls K (.ref C) mc "every" = some (.get (.builtin "staticmethod.__get__") (.ref pEv) .none (.ref C)))
    (aV : PySem.W.recIn K pEv "staticmethod" = some (.ref fV :: rest))
    (lV : K.lookup fV = some ⟨ocV, odV, .func (PySem.W.fnOf "every" "Rule.every" (defArgs s_Rule_every) (defBody s_Rule_every) (defScope s_Rule_every) .none kVV dcV pmV anV cdV ctV), slV⟩)
    (cV : PySem.W.codeIn K cdV "Rule.every" = true)
    (kV : PySem.W.keepIn K (.ref fV) = true)
    (xCE : K.lookup CE = some (excClassObj nmCE qCE CE NCE bsCE bmCE true snCE subCE abCE colCE ddCE m0CE m1CE m2CE m3CE m5CE "ValueError.__new__"))
    (xrCE : PySem.HandSPX.refsVE bmCE = true)
    (xsCE : PySem.W.findIn K (.ref CE) "__setattr__" = some (some (.builtin "object.__setattr__")))
    (xeCE : PySem.W.subIn K (.ref CE) (.type "BaseException") = some true)
    (xtCE : PySem.W.typeIn K (.ref CE) = some (.type "type"))
    (xkCE : PySem.W.keepIn K (.ref CE) = true)
    (xgCE : PySem.W.findIn K (.ref CE) "__getattribute__" = some (some (.builtin "BaseException.__getattribute__")))
    (xaCE : PySem.W.findIn K (.ref CE) "__getattr__" = some none)
    (xhCE : PySem.W.hasDictIn K CE = true)
    (nCE_code : PySem.W.findIn K (.ref CE) "code" = some none)
    (nCE_given : PySem.W.findIn K (.ref CE) "given" = some none)
    (em : PySem.W.exmAny K (.ref CE) [.ref CS, .ref CM] = some true)
    (lc : K.lookup cz = some ⟨cdo, cdd, .fields cvs, csl⟩)
    (vc : cvs[11]? = some (.ref Pt))
    (ch : PySem.W.codeHdIn K cz Pt = true)
    (nP : K.lookup Pt = none)
    (z_len : PySem.W.nsIn K mainGlobals "len" = some none)
    (z_abs : PySem.W.nsIn K mainGlobals "abs" = some none)
    (z_int : PySem.W.nsIn K mainGlobals "int" = some none)
    (z_list : PySem.W.nsIn K mainGlobals "list" = some none)
    (z_isinstance : PySem.W.nsIn K mainGlobals "isinstance" = some none)
    (z_bool : PySem.W.nsIn K mainGlobals "bool" = some none)
    (z_str : PySem.W.nsIn K mainGlobals "str" = some none)
    (z_tuple : PySem.W.nsIn K mainGlobals "tuple" = some none)
    (z_all : PySem.W.nsIn K mainGlobals "all" = some none)
    (z_zip : PySem.W.nsIn K mainGlobals "zip" = some none)
    (z_repr : PySem.W.nsIn K mainGlobals "repr" = some none) :
    LamX.LawAtS l w K CX0 7 63 "_law_script" mg fa h := by
  have e := hfa.symm.trans (PySem.W.mg_of X G aL)
  cases e
  have FB := fun_mk (st := s_L_bag) lB cB kB
  have bB := FB.binds (ps := ["_law_script"]) fun _ _ _ _ _ _ us hl => match us, hl with | [_], _ => rfl
  have FP := fun_mk (st := s_L_pull) lP cP kP
  have bP := FP.binds (ps := ["_law_bag_here", "_law_many"]) fun _ _ _ _ _ _ us hl => match us, hl with | [_, _], _ => rfl
  have FO := fun_mk (st := s_L_of) lO cO kO
  have bO := FO.binds (ps := ["_law_bag_here", "_law_things"]) fun _ _ _ _ _ _ us hl => match us, hl with | [_, _], _ => rfl
  have FS := fun_mk (st := s_L_same) lS cS kS
  have bS := FS.binds (ps := ["_law_found", "_law_due"]) fun _ _ _ _ _ _ us hl => match us, hl with | [_, _], _ => rfl
  have FF := fun_mk (st := s_L_field) lF cF kF
  have bF := FF.binds (ps := ["_law_e"]) fun _ _ _ _ _ _ us hl => match us, hl with | [_], _ => rfl
  have FX := fun_mk (st := s_L_other_field) lX cX kX
  have bX := FX.binds (ps := ["_law_e"]) fun _ _ _ _ _ _ us hl => match us, hl with | [_], _ => rfl
  have FW := fun_mk (st := s_L_why) lW cW kW
  have bW := FW.binds (ps := ["_law_ask"]) fun _ _ _ _ _ _ us hl => match us, hl with | [_], _ => rfl
  have FE := fun_mk (st := s_InvalidName_D_initD_) lE cE kE
  have bE := FE.binds (ps := ["self", "given"]) fun _ _ _ _ _ _ us hl => match us, hl with | [_, _], _ => rfl
  have FQ := fun_mk (st := s_Rule_D_eqD_) lQ cQ kQ
  have bQ := FQ.binds (ps := ["self", "other"]) fun _ _ _ _ _ _ us hl => match us, hl with | [_, _], _ => rfl
  have FT := fun_mk (st := s_Rule_D_strD_) lT cT kT
  have bT := FT.binds (ps := ["self"]) fun _ _ _ _ _ _ us hl => match us, hl with | [_], _ => rfl
  have FU := fun_mk (st := s_Rule_D_reprD_) lU cU kU
  have bU := FU.binds (ps := ["self"]) fun _ _ _ _ _ _ us hl => match us, hl with | [_], _ => rfl
  have FV := fun_mk (st := s_Rule_every) lV cV kV
  have bV := FV.binds (ps := []) fun _ _ _ _ _ _ us hl => match us, hl with | [], _ => rfl
  have FR : FunD K "__init__" "Rule.__init__" (defArgs s_Rule_D_initD_) (defBody s_Rule_D_initD_) (defScope s_Rule_D_initD_) [.str "new"] [("renewed", .bl true)] fR _ :=
    ⟨⟨_, _, _, _, _, _, _, _, _, _, rfl, lR, cR, .inr ⟨(fun z => nomatch z), TR, _, [.str "new" t0], nT, rfl, lT0, rfl, .cons ⟨_, rfl⟩ .nil⟩, .inr ⟨DR, rfl, fun q hq => by
      cases hq with
      | head => exact ⟨_, dR, rfl⟩
      | tail _ z => cases z⟩⟩, kR⟩
  obtain ⟨ds1, v1, b1⟩ := FR.binds (ps := ["self", "naming", "renewed"]) 1 0 (fun z => nomatch z) rfl (fun T D doc pm an cdv ct us its ks h1 h2 h3 => match us, its, ks, h1, h2, h3 with | [_], [_], [_], _, _, _ => ⟨_, rfl, _, _, _, _, _, _, rfl, rfl, rfl⟩) (fun z => nomatch z)
  obtain ⟨ds2, v2, b2⟩ := FR.binds (ps := ["self", "naming", "renewed"]) 2 1 (fun z => nomatch z) rfl (fun T D doc pm an cdv ct us its ks h1 h2 h3 => match us, its, ks, h1, h2, h3 with | [_, _], [_], [_], _, _, _ => ⟨_, rfl, _, _, _, _, _, _, rfl, rfl, rfl⟩) (fun z => nomatch z)
  obtain ⟨its1, mv1, kb⟩ := FR.kbinds (ps := ["self", "naming", "renewed"]) 2 ["renewed"] [] (fun us _ _ ws => us ++ ws) (fun z => nomatch z) (fun z => nomatch z) (fun q hq => nomatch hq) (fun r1 _ _ r4 => r1.append r4) (fun T D doc pm an cdv ct us its mv ws h1 h2 h3 h4 => match us, its, mv, ws, h1, h2, h3, h4 with | [_, _], [_], [], [_], _, _, _, _ => ⟨_, rfl, rfl⟩)
  obtain ⟨its2, mv2, kc⟩ := FR.kbinds (ps := ["self", "naming", "renewed"]) 1 ["renewed", "naming"] [] (fun us _ _ ws => us ++ ws.reverse) (fun z => nomatch z) (fun z => nomatch z) (fun q hq => nomatch hq) (fun r1 _ _ r4 => r1.append r4.reverse) (fun T D doc pm an cdv ct us its mv ws h1 h2 h3 h4 => match us, its, mv, ws, h1, h2, h3, h4 with | [_], [_], [], [_, _], _, _, _, _ => ⟨_, rfl, rfl⟩)
  have kC : Cls K C := ⟨pgC, hdC, poC, saC⟩
  have xE : OexC K CE := ⟨⟨_, _, _, _, _, _, _, _, _, _, _, _, _, _, _, xCE, xrCE⟩, xsCE, xeCE, xtCE, xkCE⟩
  have TN : RuleC K mg C aN CE fE := ⟨kC, nC_naming, nC_renewed, PySem.W.mg_of X G aC, PySem.W.mg_of X G aaN, ⟨_, _, _, lN, rfl, rfl, (by show 4 ≤ sizeLine; decide), .cons ⟨_, rfl⟩ (.cons ⟨_, rfl⟩ (.cons ⟨_, rfl⟩ (.cons ⟨_, rfl⟩ .nil)))⟩, xE, aE, tE, PySem.W.mg_of X G aCE⟩
  have TL : TxtL mg := ⟨PySem.W.mg_none_of X G z_len, PySem.W.mg_none_of X G z_abs, PySem.W.mg_none_of X G z_int, PySem.W.mg_none_of X G z_list⟩
  have TE : RuleE K mg C := ⟨PySem.W.mg_of X G aC, PySem.W.mg_none_of X G z_isinstance, kC, nC_naming, nC_renewed, fun H a dx fs e => .base (.ins e kC haC hn htk hmC)⟩
  have TS : TxtS K mg fS := ⟨PySem.W.mg_none_of X G z_len, PySem.W.mg_none_of X G z_isinstance, PySem.W.mg_none_of X G z_bool, PySem.W.mg_none_of X G z_int, PySem.W.mg_none_of X G z_str, PySem.W.mg_none_of X G z_list, PySem.W.mg_none_of X G z_tuple, PySem.W.mg_none_of X G z_all, PySem.W.mg_none_of X G z_zip, PySem.W.mg_of X G aS, kS⟩
  have er : ErrC K mg "InvalidName" "given" CE fE := ⟨xE, aE, tE, PySem.W.mg_of X G aCE, nCE_code, nCE_given, ⟨xgCE, xaCE, xeCE, xhCE⟩⟩
  have TW : TxtW K mg CS CM fF := ⟨PySem.W.mg_of X G aCS, PySem.W.mg_of X G aCM, PySem.W.mg_of X G aF, kF⟩
  have hTab : h.get? Pt = some { cls := .none, data := .fields #[] } := own cz Pt _ _ _ _ _ _ lL rfl rfl lc vc
  refine ⟨PySem.W.fnOf "law" "law" (defArgs s_law) (defBody s_law) (defScope s_law) .none kVL dcL pmL anL (.ref cz) ctL, [(cz, Pt)], spLaw K Pt, fun p hp => ?_, fun p hp => ?_, fun p hp => ?_, fun s u => .of_eq rfl, fun H a ns _ _ hT hS => ?_, fun base KB GB TB => ?_⟩
  · cases hp with
    | head => exact hTab
    | tail _ z => cases z
  · cases hp with
    | head => exact nP
    | tail _ z => cases z
  · cases hp with
    | head => exact PySem.W.codeHd_of_K X ch
    | tail _ z => cases z
  · exact ⟨a, ns, rfl, hS, hT _ (List.Mem.head _), fun _ => rfl⟩
  · have GP := ok_pull (P := l.prog) (w := w) (base := base) FP TL
    have GS := ok_same (P := l.prog) (w := w) (base := base) FS TS bS
    have GE := ok_InvalidName (P := l.prog) (w := w) (base := base) (C := CE) FE er
    have GR := ok_Rule (P := l.prog) (w := w) (base := base) FR TN GE bE
    have GT := ok_str (P := l.prog) (w := w) (base := base) FT TE
    have TK : TxtK K mg C aN CE fE fB fP fO fS fW fQ fT fU fV pEv CS CM fF mc ocW odW anW kVW dcW pmW cdW ctW slW :=
      { rc := TN, re := TE, tw := TW, len := PySem.W.mg_none_of X G z_len, str := PySem.W.mg_none_of X G z_str, repr := PySem.W.mg_none_of X G z_repr, g_bag := PySem.W.mg_of X G aB, k_bag := kB, g_pull := PySem.W.mg_of X G aP, k_pull := kP, g_of := PySem.W.mg_of X G aO, k_of := kO, g_same := PySem.W.mg_of X G aS, k_same := kS, g_why := PySem.W.mg_of X G aW, k_why := kW, l_why := lW, c_why := cW, s_eq := ⟨aQ, iQ⟩, ne := ne, mro := hmC, s_str := ⟨aT, iT⟩, s_repr := ⟨aU, iU⟩,
        rd := ⟨rdC, gaC⟩, sm := ⟨ev, ⟨_, aV⟩, kV⟩, nfS := nfS, ktS := ktS, er := er, em := em }
    exact ok_law lL cL (TB _ (List.Mem.head _)) TK (ok_bag FB TL) bB GP bP (ok_of FO ⟨PySem.W.mg_none_of X G z_len, PySem.W.mg_of X G aP, kP⟩ GP bP) bO (GS 4) bS (ok_eq FQ TE) bQ GT bT (ok_repr FU ⟨⟨aT, iT⟩, fm, hmC⟩ GT bT) bU (ok_every FV TN ⟨mkC, aR, iR, kcC⟩ GR kb) bV
      (ok_field FF ⟨PySem.W.mg_of X G aX, kX⟩ (ok_other FX) bX) bF ⟨mkC, aR, iR, kcC⟩ GR ⟨v1, b1⟩ ⟨v2, b2⟩ kb kc bW
theorem walk {l : PySem.W.OpenLaw} {q : Program} {loose : List Str} {XP : (Str → Option Value) → Heap → Prop} {YP : World → Heap → Prop} {d : DefRec} {K : Params → PySem.W.Frag} (hn : l.most = some 63) (hdf : d.params.defaults = []) (hrec : ((recsOf q).any fun e => e.name == d.name) = true)
    (hY : ∀ (w : World) (h : Heap), YP w h → (K w.params).In h)
    (F : ∀ (w : World) (mg : Str → Option Value) (fa : Addr) (h : Heap), (K w.params).In h → h.Ns mainGlobals mg → mg d.name = some (.ref fa) → LamX.OwnTab (K w.params) fa h → LamX.LawAtS l w (K w.params) CX0 7 63 "_law_script" mg fa h) :
    PySem.W.WalkO q loose XP YP l.row.toRowW d [] (fun f vs => PySem.call f vs) :=
  LamX.walk_ofOwn (n := 63) (k := 7) (x := "_law_script") (CX := fun _ => CX0) hn (by decide) hdf ⟨rfl, by decide, by decide⟩ hrec hY (fun w mg fa h _ KX G hm own => F w mg fa h KX G hm own) fun _ _ _ _ _ z => z
end Mine

open PySem PySem.W PyProof.Rows
set_option maxRecDepth 100000 in
set_option maxHeartbeats 0 in
theorem PySem.Challenge.cw_unseenslopes_k31_rules_told_holds : PySem.Challenge.rw_unseenslopes_k31_rules_told.Holds := by
  w_on; o_law; k_head; (case hw => w_witness2)
  k_fill
  refine Mine.walk (l := PySem.Challenge.rw_unseenslopes_k31_rules_told) rfl rfl (by decide +kernel) (fun w h Y => by first | exact PySem.W.kIn_of Y | exact PySem.W.km_in_of Y) ?F
  case F =>
    intro w mg fa h KX G hmg own
    refine' Mine.all_mk KX G hmg own ?aC ?aCE ?aCS ?aCM ?aaN ?aB ?lB ?cB ?kB ?aP ?lP ?cP ?kP ?aO ?lO ?cO ?kO ?aS ?lS ?cS ?kS ?aF ?lF ?cF ?kF ?aX ?lX ?cX ?kX ?aW ?lW ?cW ?kW ?aL ?lL ?cL ?kL ?aE ?lE ?cE ?kE ?aR ?lR ?cR ?kR ?aQ ?lQ ?cQ ?kQ ?aT ?lT ?cT ?kT ?aU ?lU ?cU ?kU ?iR ?iQ ?iT ?iU ?tE ?lN ?lT0 ?dR ?pgC ?hdC ?poC ?saC ?mkC ?kcC ?haC ?hmC ?nC_naming ?nC_renewed ?hn ?htk ?ne ?fm ?nfS ?ktS ?tyC ?rdC ?gaC ?ev ?aV ?lV ?cV ?kV ?xCE ?xrCE ?xsCE ?xeCE ?xtCE ?xkCE ?xgCE ?xaCE ?xhCE ?nCE_code ?nCE_given ?em ?lc ?vc ?ch ?nP ?z_len ?z_abs ?z_int ?z_list ?z_isinstance ?z_bool ?z_str ?z_tuple ?z_all ?z_zip ?z_repr
    (case aC => k_is)
    (case aCE => k_is)
    (case aCS => k_is)
    (case aCM => k_is)
    (case aaN => k_is)
    (case aB => k_is)
    (case lB => k_is)
    (case cB => k_is)
    (case kB => k_is)
    (case aP => k_is)
    (case lP => k_is)
    (case cP => k_is)
    (case kP => k_is)
    (case aO => k_is)
    (case lO => k_is)
    (case cO => k_is)
    (case kO => k_is)
    (case aS => k_is)
    (case lS => k_is)
    (case cS => k_is)
    (case kS => k_is)
    (case aF => k_is)
    (case lF => k_is)
    (case cF => k_is)
    (case kF => k_is)
    (case aX => k_is)
    (case lX => k_is)
    (case cX => k_is)
    (case kX => k_is)
    (case aW => k_is)
    (case lW => k_is)
    (case cW => k_is)
    (case kW => k_is)
    (case aL => k_is)
    (case lL => k_is)
    (case cL => k_is)
    (case kL => k_is)
    (case aE => k_is)
    (case lE => k_is)
    (case cE => k_is)
    (case kE => k_is)
    (case aR => k_is)
    (case lR => k_is)
    (case cR => k_is)
    (case kR => k_is)
    (case aQ => k_is)
    (case lQ => k_is)
    (case cQ => k_is)
    (case kQ => k_is)
    (case aT => k_is)
    (case lT => k_is)
    (case cT => k_is)
    (case kT => k_is)
    (case aU => k_is)
    (case lU => k_is)
    (case cU => k_is)
    (case kU => k_is)
    (case iR => k_is)
    (case iQ => k_is)
    (case iT => k_is)
    (case iU => k_is)
    (case tE => k_is)
    (case lN => k_is)
    (case lT0 => k_is)
    (case dR => k_is)
    (case pgC => k_is)
    (case hdC => k_is)
    (case poC => k_is)
    (case saC => k_is)
    (case mkC => k_is)
    (case kcC => k_is)
    (case haC => k_is)
    (case hmC => k_is)
    (case nC_naming => k_is)
    (case nC_renewed => k_is)
    (case hn => k_is)
    (case htk => k_is)
    (case ne => k_is)
    (case fm => k_is)
    (case nfS => k_is)
    (case ktS => kernel_rfl)
    (case tyC => k_is)
    (case rdC => k_is)
    (case gaC => k_is)
    (case ev => k_is)
    (case aV => k_is)
    (case lV => k_is)
    (case cV => k_is)
    (case kV => k_is)
    (case xCE => k_is)
    (case xrCE => kernel_rfl)
    (case xsCE => k_is)
    (case xeCE => k_is)
    (case xtCE => k_is)
    (case xkCE => k_is)
    (case xgCE => k_is)
    (case xaCE => k_is)
    (case xhCE => k_is)
    (case nCE_code => k_is)
    (case nCE_given => k_is)
    (case em => kernel_rfl)
    (case lc => k_is)
    (case vc => rfl)
    (case ch => kernel_rfl)
    (case nP => kernel_rfl)
    (case z_len => k_is)
    (case z_abs => k_is)
    (case z_int => k_is)
    (case z_list => k_is)
    (case z_isinstance => k_is)
    (case z_bool => k_is)
    (case z_str => k_is)
    (case z_tuple => k_is)
    (case z_all => k_is)
    (case z_zip => k_is)
    (case z_repr => k_is)

