import PyProof.Rows.All
import Wide.All
import OpenK.AllK
import Wide.FinOn
import HandS.ForMost
import HandS.Codes
import HandS.IsInst
import PySem.Challenge.RW_glowboard_k53_whole_beams
set_option Elab.async false
set_option maxRecDepth 100000
set_option maxHeartbeats 8000000
namespace Bm
/-- the torn rows among the first k steps -/
def tornTo (ms : List Int) (h : Nat) : Nat → List (Int × Int)
  | 0 => []
  | k + 1 => if 0 < k % h ∧ ms[k]? ≠ ms[k - 1]? then tornTo ms h k ++ [(((k / h : Nat) : Int), ((k % h : Nat) : Int))] else tornTo ms h k
def torn (ms : List Int) (h : Nat) : List (Int × Int) := tornTo ms h ms.length
/-- the make read last, 0 ahead of the first -/
def lastOf (ms : List Int) : Int := (ms[ms.length - 1]?).getD 0
theorem tornTo_app (ms : List Int) (m : Int) (h : Nat) : ∀ k, k ≤ ms.length → tornTo (ms ++ [m]) h k = tornTo ms h k
  | 0, _ => rfl
  | k + 1, hk => by
    have ih := tornTo_app ms m h k (by omega)
    have e1 : (ms ++ [m])[k]? = ms[k]? := List.getElem?_append_left (by omega)
    have e2 : (ms ++ [m])[k - 1]? = ms[k - 1]? := List.getElem?_append_left (by omega)
    unfold tornTo
    rw [ih, e1, e2]
theorem torn_app (ms : List Int) (m : Int) (h : Nat) : torn (ms ++ [m]) h =
    if 0 < ms.length % h ∧ m ≠ lastOf ms then torn ms h ++ [(((ms.length / h : Nat) : Int), ((ms.length % h : Nat) : Int))] else torn ms h := by
  unfold torn
  rw [List.length_append, List.length_singleton]
  show (if 0 < ms.length % h ∧ (ms ++ [m])[ms.length]? ≠ (ms ++ [m])[ms.length - 1]? then tornTo (ms ++ [m]) h ms.length ++ _ else tornTo (ms ++ [m]) h ms.length) = _
  rw [tornTo_app ms m h _ (Nat.le_refl _)]
  by_cases h0 : 0 < ms.length % h
  · have hp : 0 < ms.length := Nat.pos_of_ne_zero fun z => by rw [z, Nat.zero_mod] at h0; omega
    have e1 : (ms ++ [m])[ms.length]? = some m := by rw [List.getElem?_append_right (Nat.le_refl _), Nat.sub_self]; rfl
    have e2 : (ms ++ [m])[ms.length - 1]? = some (lastOf ms) := by
      rw [List.getElem?_append_left (by omega)]
      unfold lastOf
      rw [List.getElem?_eq_getElem (show ms.length - 1 < ms.length by omega)]
      rfl
    rw [e1, e2]
    by_cases hm : m = lastOf ms
    · rw [if_neg (fun z => z.2 (by rw [hm])), if_neg (fun z => z.2 hm)]
    · rw [if_pos ⟨h0, fun z => hm (Option.some.inj z)⟩, if_pos ⟨h0, hm⟩]
  · rw [if_neg (fun z => h0 z.1), if_neg (fun z => h0 z.1)]
theorem torn_le (ms : List Int) (h : Nat) : (torn ms h).length ≤ ms.length := by
  have : ∀ k, (tornTo ms h k).length ≤ k := by
    intro k
    induction k with
    | zero => exact Nat.le_refl _
    | succ k ih =>
      unfold tornTo
      split
      · rw [List.length_append, List.length_singleton]; omega
      · omega
  exact this _
theorem lastOf_app (ms : List Int) (m : Int) : lastOf (ms ++ [m]) = m := by
  unfold lastOf
  rw [List.length_append, List.length_singleton, List.getElem?_append_right (by omega)]
  have e : ms.length + 1 - 1 - ms.length = 0 := by omega
  rw [e]
  rfl
theorem dm {h q r : Nat} (hr : r < h) : (h * q + r) % h = r ∧ (h * q + r) / h = q := by
  have h0 : 0 < h := Nat.lt_of_le_of_lt (Nat.zero_le _) hr
  refine ⟨by rw [Nat.mul_add_mod, Nat.mod_eq_of_lt hr], ?_⟩
  rw [Nat.mul_add_div h0, Nat.div_eq_of_lt hr, Nat.add_zero]
/-- the next row, the turn goes on -/
theorem next_in {n h : Nat} (h0 : 0 < h) (e : n % h + 1 ≠ h) : (n + 1) % h = n % h + 1 ∧ (n + 1) / h = n / h := by
  have q := Nat.div_add_mod n h
  have r := Nat.mod_lt n h0
  have e1 : n + 1 = h * (n / h) + (n % h + 1) := by omega
  have z := dm (h := h) (q := n / h) (r := n % h + 1) (by omega)
  rw [← e1] at z
  exact z
/-- the next row is the first of the next turn -/
theorem next_out {n h : Nat} (h0 : 0 < h) (e : n % h + 1 = h) : (n + 1) % h = 0 ∧ (n + 1) / h = n / h + 1 := by
  have q := Nat.div_add_mod n h
  have e1 : n + 1 = h * (n / h + 1) := by rw [Nat.mul_add]; omega
  refine ⟨by rw [e1]; exact Nat.mul_mod_right _ _, ?_⟩
  have : h * (n / h + 1) / h = n / h + 1 := Nat.mul_div_cancel_left _ h0
  rw [← e1] at this
  exact this
theorem cast_div (n h : Nat) : ((n : Nat) : Int) / ((h : Nat) : Int) = ((n / h : Nat) : Int) := (Int.natCast_ediv n h).symm
theorem cast_mod (n h : Nat) : ((n : Nat) : Int) % ((h : Nat) : Int) = ((n % h : Nat) : Int) := (Int.natCast_emod n h).symm
end Bm

/-! The beam's class: its text, its fields, the promise of each method. -/
namespace Bm
open PySem L2
def top (i : Nat) : Stmt := PySem.Challenge.pw_glowboard_k53_whole_beams.main.body.getD i (.Pass ⟨0, 0, 0, 0⟩)
abbrev sInit : Stmt := inClass (top 1) 0
abbrev sStep : Stmt := inClass (top 1) 1
abbrev sAhead : Stmt := inClass (top 1) 2
abbrev sRests : Stmt := inClass (top 1) 3
abbrev sTorn : Stmt := inClass (top 1) 4
abbrev sDraw : Stmt := top 3
abbrev sWhole : Stmt := top 4
abbrev sPair : Stmt := top 5
abbrev sLTorn : Stmt := top 6
abbrev sStands : Stmt := top 7
abbrev sStepped : Stmt := top 8
abbrev sMake : Stmt := top 9
abbrev sCells : Stmt := top 10
abbrev sLaw : Stmt := top 11
/-! ### the fields -/
def pf (h t r m : Int) (l : Addr) : List (Str × V) := [("rows", .int h), ("turn", .int t), ("row_next", .int r), ("last_make", .int m), ("torn_rows", .ref l)]
theorem b1 : (("turn" : Str) == "rows") = false := by decide +kernel
theorem b2 : (("row_next" : Str) == "rows") = false := by decide +kernel
theorem b3 : (("row_next" : Str) == "turn") = false := by decide +kernel
theorem b4 : (("last_make" : Str) == "rows") = false := by decide +kernel
theorem b5 : (("last_make" : Str) == "turn") = false := by decide +kernel
theorem b6 : (("last_make" : Str) == "row_next") = false := by decide +kernel
theorem b7 : (("torn_rows" : Str) == "rows") = false := by decide +kernel
theorem b8 : (("torn_rows" : Str) == "turn") = false := by decide +kernel
theorem b9 : (("torn_rows" : Str) == "row_next") = false := by decide +kernel
theorem b10 : (("torn_rows" : Str) == "last_make") = false := by decide +kernel
theorem n1 : ¬ (("rows" : Str) = "turn") := by decide +kernel
theorem n2 : ¬ (("rows" : Str) = "row_next") := by decide +kernel
theorem n3 : ¬ (("turn" : Str) = "row_next") := by decide +kernel
theorem n4 : ¬ (("rows" : Str) = "last_make") := by decide +kernel
theorem n5 : ¬ (("turn" : Str) = "last_make") := by decide +kernel
theorem n6 : ¬ (("row_next" : Str) = "last_make") := by decide +kernel
theorem n7 : ¬ (("rows" : Str) = "torn_rows") := by decide +kernel
theorem n8 : ¬ (("turn" : Str) = "torn_rows") := by decide +kernel
theorem n9 : ¬ (("row_next" : Str) = "torn_rows") := by decide +kernel
theorem n10 : ¬ (("last_make" : Str) = "torn_rows") := by decide +kernel
section
variable {h t r m : Int} {l : Addr}
theorem pf_rows : (pf h t r m l).lookup ("rows" : Str) = some (.int h) := by
  simp only [pf, List.lookup_cons, beq_self_eq_true]
theorem pf_turn : (pf h t r m l).lookup ("turn" : Str) = some (.int t) := by
  simp only [pf, List.lookup_cons, beq_self_eq_true, b1]
theorem pf_next : (pf h t r m l).lookup ("row_next" : Str) = some (.int r) := by
  simp only [pf, List.lookup_cons, beq_self_eq_true, b2, b3]
theorem pf_last : (pf h t r m l).lookup ("last_make" : Str) = some (.int m) := by
  simp only [pf, List.lookup_cons, beq_self_eq_true, b4, b5, b6]
theorem pf_torn : (pf h t r m l).lookup ("torn_rows" : Str) = some (.ref l) := by
  simp only [pf, List.lookup_cons, beq_self_eq_true, b7, b8, b9, b10]
theorem pf_no {f : Str} (h1 : (f == "rows") = false) (h2 : (f == "turn") = false) (h3 : (f == "row_next") = false) (h4 : (f == "last_make") = false) (h5 : (f == "torn_rows") = false) : (pf h t r m l).lookup f = none := by
  simp only [pf, List.lookup_cons, h1, h2, h3, h4, h5, List.lookup_nil]
theorem pf_len : (pf h t r m l).length < 1000 := by
  show 5 < 1000
  decide
theorem put_turn (t' : Int) : putF "turn" (.int t') (pf h t r m l) = pf h t' r m l := by
  simp only [pf, putF, if_neg n1, if_true]
theorem put_next (r' : Int) : putF "row_next" (.int r') (pf h t r m l) = pf h t r' m l := by
  simp only [pf, putF, if_neg n2, if_neg n3, if_true]
theorem put_last (m' : Int) : putF "last_make" (.int m') (pf h t r m l) = pf h t r m' l := by
  simp only [pf, putF, if_neg n4, if_neg n5, if_neg n6, if_true]
theorem put_all : putF "torn_rows" (.ref l) (putF "last_make" (.int m) (putF "row_next" (.int r) (putF "turn" (.int t) (putF "rows" (.int h) [])))) = pf h t r m l := by
  simp only [pf, putF, if_neg n1, if_neg n2, if_neg n3, if_neg n4, if_neg n5, if_neg n6, if_neg n7, if_neg n8, if_neg n9, if_neg n10]
end
/-! ### heaps -/
/-- all but what stands in S is as it was -/
def Keep (S : List Addr) (H H' : Hp) : Prop := ∀ b o, H b = some o → b ∉ S → H' b = some o
theorem Keep.refl (S : List Addr) (H : Hp) : Keep S H H := fun _ _ h _ => h
theorem Keep.trans {S : List Addr} {H H1 H2 : Hp} (a : Keep S H H1) (b : Keep S H1 H2) : Keep S H H2 := fun c o h n => b c o (a c o h n) n
theorem Keep.mono {S T : List Addr} {H H' : Hp} (a : Keep S H H') (h : ∀ b ∈ S, b ∈ T) : Keep T H H' := fun c o e n => a c o e fun z => n (h c z)
theorem Keep.same {S : List Addr} {H H' : Hp} (a : Same H H') : Keep S H H' := fun c o e _ => a c o e
theorem Keep.to {H H' : Hp} (a : Keep [] H H') : Same H H' := fun c o e => a c o e (by simp)
/-- a new object -/
theorem Keep.new {S : List Addr} {H H' : Hp} {u : Addr} {o : HO} (k : Keep S H H') (n : H u = none) : Keep S H (upd H' u o) := fun c q e z => by
  rw [upd_ne (ne_of_none e n)]
  exact k c q e z
/-- an object that was made since -/
theorem Keep.new' {S : List Addr} {H H' : Hp} {u : Addr} {o : HO} (k : Keep S H H') (n : H' u = none) : Keep S H (upd H' u o) := fun c q e z => by
  rw [upd_ne (ne_of_none (k c q e z) n)]
  exact k c q e z
/-- a store into what stands in S -/
theorem Keep.put {S : List Addr} {H H' : Hp} {u : Addr} {o : HO} (k : Keep S H H') (m : u ∈ S) : Keep S H (upd H' u o) := fun c q e z => by
  rw [upd_ne (fun w => z (by rw [w]; exact m))]
  exact k c q e z
/-! ### the promises of the methods -/
def spInit (C : Addr) : Sp := fun vs H Q _ => ∃ (p dx : Addr) (h : Int), vs = [.ref p, .int h] ∧ H p = some (.ins C dx []) ∧
  ∀ (l : Addr) (H' : Hp), H l = none → H' p = some (.ins C dx (pf h 0 0 0 l)) → H' l = some (.lst []) → Keep [p] H H' → Q .non H'
def spStep (C : Addr) : Sp := fun vs H Q _ => ∃ (p dx l : Addr) (h t r lm m : Int) (xs : List V), vs = [.ref p, .int m] ∧ H p = some (.ins C dx (pf h t r lm l)) ∧ H l = some (.lst xs) ∧ xs.length < sizeLine ∧
  ∀ (u : Addr) (H' : Hp), H u = none → H' u = some (.tup [.int t, .int r]) → H' p = some (.ins C dx (pf h (if r + 1 = h then t + 1 else t) (if r + 1 = h then 0 else r + 1) m l)) →
    H' l = some (.lst (if 0 < r ∧ m ≠ lm then xs ++ [.ref u] else xs)) → Keep [p, l] H H' → Q (.ref u) H'
def spAhead (C : Addr) : Sp := fun vs H Q _ => ∃ (p dx l : Addr) (h t r lm : Int), vs = [.ref p] ∧ H p = some (.ins C dx (pf h t r lm l)) ∧ ∀ u, H u = none → Q (.ref u) (upd H u (.tup [.int t, .int r]))
def spRests (C : Addr) : Sp := fun vs H Q _ => ∃ (p dx l : Addr) (h t r lm : Int), vs = [.ref p] ∧ H p = some (.ins C dx (pf h t r lm l)) ∧ Q (.bl (decide (r = 0))) H
def spTorn (C : Addr) : Sp := fun vs H Q _ => ∃ (p dx l : Addr) (h t r lm : Int) (xs : List V), vs = [.ref p] ∧ H p = some (.ins C dx (pf h t r lm l)) ∧ H l = some (.lst xs) ∧ ∀ u, H u = none → Q (.ref u) (upd H u (.lst xs))
/-- what the walk asks of the top -/
structure Txt (K : PySem.W.Frag) (mg : Str → Option Value) (C : Addr) : Prop where
  cl : Cls K C
  nR : NoAttr K C "rows"
  nT : NoAttr K C "turn"
  nN : NoAttr K C "row_next"
  nL : NoAttr K C "last_make"
  nO : NoAttr K C "torn_rows"
  mgC : mg "Beam" = some (.ref C)
  len : mg "len" = none
  list : mg "list" = none
  all : mg "all" = none
  range : mg "range" = none
  isi : mg "isinstance" = none
  int : mg "int" = none
  bool : mg "bool" = none
  tuple : mg "tuple" = none
section
variable {P : Program} {w : World} {K : PySem.W.Frag} {mg : Str → Option Value} {base : Heap}
theorem scI : FnScope ["self", "high"] ["self", "high"] (defScope sInit) := ⟨rfl, rfl, rfl, by decide +kernel, rfl, by decide +kernel, by decide +kernel⟩
theorem ok_init {f C : Addr} {fd : FuncData} (F : Fun K "__init__" "Beam.__init__" sInit f fd) (T : Txt K mg C) : FnOk P w K mg base CX0 1 f fd ["self", "high"] (spInit C) := by
  refine F.ok scI (fun vs H Q E h => ?_) (fun cdv A outer s H vs Q E hr h => ?_)
  · obtain ⟨p, dx, h, rfl, _⟩ := h
    rfl
  · obtain ⟨p, dx, h, rfl, hp, k⟩ := h
    refine ⟨_, pss_cons (ps_fld (pv 0) (pv 1) rfl) (pss_cons (ps_fld (pv 0) pe_int rfl) (pss_cons (ps_fld (pv 0) pe_int rfl) (pss_cons (ps_fld (pv 0) pe_int rfl)
      (pss_one (ps_fld (pv 0) (pe_lst pa_nil) rfl))))), ?_⟩
    refine ⟨_, rfl, _, rfl, p, C, dx, [], rfl, hp, T.cl, T.nR, (by show 0 < 1000; decide), ?_⟩
    refine ⟨_, rfl, p, C, dx, _, rfl, upd_same, T.cl, T.nT, (by show 1 < 1000; decide), ?_⟩
    refine ⟨_, rfl, p, C, dx, _, rfl, upd_same, T.cl, T.nN, (by simp only [putF, if_neg n1]; show 2 < 1000; decide), ?_⟩
    refine ⟨_, rfl, p, C, dx, _, rfl, upd_same, T.cl, T.nL, (by simp only [putF, if_neg n1, if_neg n2, if_neg n3]; show 3 < 1000; decide), ?_⟩
    refine ⟨Nat.zero_le _, fun l hl => ?_⟩
    have npl : p ≠ l := fun q => by
      rw [q, upd_same] at hl
      cases hl
    have hl0 : H l = none := by
      rw [upd_ne npl.symm, upd_ne npl.symm, upd_ne npl.symm, upd_ne npl.symm] at hl
      exact hl
    refine ⟨_, rfl, p, C, dx, _, rfl, Eq.trans (upd_ne npl) upd_same, T.cl, T.nO, (by simp only [putF, if_neg n1, if_neg n2, if_neg n3, if_neg n4, if_neg n5, if_neg n6]; show 4 < 1000; decide), ?_⟩
    refine k l _ hl0 (Eq.trans upd_same (congrArg (fun q => some (HO.ins C dx q)) put_all)) (by rw [upd_ne npl.symm, upd_same]) ?_
    exact (((((Keep.refl _ H).put (by simp)).put (by simp)).put (by simp)).put (by simp) |>.new hl0).put (by simp)
theorem scS : FnScope ["self", "make", "spot"] ["self", "make"] (defScope sStep) := ⟨rfl, rfl, rfl, by decide +kernel, rfl, by decide +kernel, by decide +kernel⟩
theorem ok_step {f C : Addr} {fd : FuncData} (F : Fun K "step" "Beam.step" sStep f fd) (T : Txt K mg C) : FnOk P w K mg base CX0 1 f fd ["self", "make"] (spStep C) := by
  refine F.ok scS (fun vs H Q E h => ?_) (fun cdv A outer s H vs Q E hr h => ?_)
  · obtain ⟨p, dx, l, h, t, r, lm, m, xs, rfl, _⟩ := h
    rfl
  · obtain ⟨p, dx, l, h, t, r, lm, m, xs, rfl, hp, hL, hlen, k⟩ := h
    refine ⟨_, pss_cons (ps_set (i := 2) scS.nd rfl (Or.inl rfl) (pe_tup (pa_cons (pe_fld (pv 0) rfl) (pa_cons (pe_fld (pv 0) rfl) pa_nil))))
      (C8.pss_cut (ps_if (PW.pt (pw_and (pt_cmpR op_gt (pe_fld (pv 0) rfl) pe_int (nomark _)) (pw_and1 (pt_cmpR op_ne (pv 1) (pe_fld (pv 0) rfl) (nomark _)))))
          (pss_one (ps_expr (pe_bm PySem.F.plainAttrs_list PySem.F.slot_list_append PySem.F.type_list_append mt_append (pe_fld (pv 0) rfl) (pa_cons (pv 2) pa_nil)))) pss_nil)
      (pss_cons (ps_fld (pv 0) (pv 1) rfl)
      (pss_cons (ps_fld (pv 0) (pe_op op_add (pe_fld (pv 0) rfl) pe_int) rfl)
      (pss_cons (ps_if (pt_cmpR op_eq (pe_fld (pv 0) rfl) (pe_fld (pv 0) rfl) (nomark _))
          (pss_cons (ps_fld (pv 0) pe_int rfl) (pss_one (ps_fld (pv 0) (pe_op op_add (pe_fld (pv 0) rfl) pe_int) rfl))) pss_nil)
      (pss_one (ps_ret (pv 2))))))), ?_⟩
    refine ⟨_, rfl, p, C, dx, _, _, rfl, hp, T.cl, T.nT, pf_turn, _, rfl, p, C, dx, _, _, rfl, hp, T.cl, T.nN, pf_next, (by show 2 ≤ sizeLine; decide), fun u hu => ?_⟩
    have npu : p ≠ u := ne_of_none hp hu
    have nlu : l ≠ u := ne_of_none hL hu
    have npl : p ≠ l := ne_of hp hL (by intro z; cases z)
    have hp1 : upd H u (.tup [.int t, .int r]) p = some (.ins C dx (pf h t r lm l)) := by rw [upd_ne npu]; exact hp
    have hL1 : upd H u (.tup [.int t, .int r]) l = some (.lst xs) := by rw [upd_ne nlu]; exact hL
    refine ⟨fun σ' H' => σ' = [some (.ref p), some (.int m), some (.ref u)] ∧ H' u = some (.tup [.int t, .int r]) ∧ H' p = some (.ins C dx (pf h t r lm l)) ∧ H' l = some (.lst (if 0 < r ∧ m ≠ lm then xs ++ [.ref u] else xs)) ∧ Keep [p, l] H H', ?_, ?_⟩
    · refine ⟨_, rfl, p, C, dx, _, _, rfl, hp1, T.cl, T.nN, pf_next, _, _, rfl, rfl, _, rfl, ?_⟩
      refine ite2 (fun c1 => ?_) (fun c1 => ?_)
      · have h0 : 0 < r := of_decide_eq_true c1
        refine ⟨_, rfl, _, rfl, p, C, dx, _, _, rfl, hp1, T.cl, T.nL, pf_last, rfl, _, rfl, ?_⟩
        refine ite2 (fun c2 => ?_) (fun c2 => ?_)
        · have hm : m ≠ lm := fun z => by rw [z] at c2; simp at c2
          refine ⟨_, rfl, p, C, dx, _, _, rfl, hp1, T.cl, T.nO, pf_torn, .inl ⟨rfl, _, SqL.of hL1⟩, _, rfl, l, _, _, rfl, rfl, hL1, hlen, ?_⟩
          refine ⟨rfl, by rw [upd_ne nlu.symm, upd_same], by rw [upd_ne npl]; exact hp1, by rw [upd_same, if_pos ⟨h0, hm⟩], ((Keep.refl _ H).new hu).put (by simp)⟩
        · have hm : m = lm := by simpa using c2
          exact ⟨rfl, upd_same, hp1, by rw [hL1, if_neg fun z => z.2 hm], (Keep.refl _ H).new hu⟩
      · have h0 : ¬ 0 < r := fun z => c1 (decide_eq_true z)
        exact ite2 (fun c2 => absurd c2 (by simp)) (fun _ => ⟨rfl, upd_same, hp1, by rw [hL1, if_neg fun z => h0 z.1], (Keep.refl _ H).new hu⟩)
    · rintro σ' H' ⟨rfl, hu', hp', hL', kp⟩
      refine ⟨_, rfl, _, rfl, p, C, dx, _, rfl, hp', T.cl, T.nL, pf_len, ?_⟩
      rw [put_last]
      refine ⟨_, rfl, p, C, dx, _, _, rfl, upd_same, T.cl, T.nN, pf_next, _, _, rfl, rfl, _, rfl, p, C, dx, _, rfl, upd_same, T.cl, T.nN, pf_len, ?_⟩
      rw [put_next]
      refine ⟨_, rfl, p, C, dx, _, _, rfl, upd_same, T.cl, T.nN, pf_next, _, rfl, p, C, dx, _, _, rfl, upd_same, T.cl, T.nR, pf_rows, rfl, _, rfl, ?_⟩
      refine ite2 (fun c => ?_) (fun c => ?_)
      · have hh : r + 1 = h := by simpa using c
        refine ⟨_, rfl, p, C, dx, _, rfl, upd_same, T.cl, T.nN, pf_len, ?_⟩
        rw [put_next]
        refine ⟨_, rfl, p, C, dx, _, _, rfl, upd_same, T.cl, T.nT, pf_turn, _, _, rfl, rfl, _, rfl, p, C, dx, _, rfl, upd_same, T.cl, T.nT, pf_len, ?_⟩
        rw [put_turn]
        refine ⟨_, rfl, k u _ hu ?_ ?_ ?_ ?_⟩
        · rw [upd_ne npu.symm, upd_ne npu.symm, upd_ne npu.symm, upd_ne npu.symm]; exact hu'
        · rw [upd_same, if_pos hh, if_pos hh]
        · rw [upd_ne npl.symm, upd_ne npl.symm, upd_ne npl.symm, upd_ne npl.symm]; exact hL'
        · exact (((kp.put (by simp)).put (by simp)).put (by simp)).put (by simp)
      · have hh : ¬ r + 1 = h := by simpa using c
        refine ⟨_, rfl, k u _ hu ?_ ?_ ?_ ?_⟩
        · rw [upd_ne npu.symm, upd_ne npu.symm]; exact hu'
        · rw [upd_same, if_neg hh, if_neg hh]
        · rw [upd_ne npl.symm, upd_ne npl.symm]; exact hL'
        · exact (kp.put (by simp)).put (by simp)
theorem scAh : FnScope ["self"] ["self"] (defScope sAhead) := ⟨rfl, rfl, rfl, by decide +kernel, rfl, by decide +kernel, by decide +kernel⟩
theorem ok_ahead {f C : Addr} {fd : FuncData} (F : Fun K "ahead" "Beam.ahead" sAhead f fd) (T : Txt K mg C) : FnOk P w K mg base CX0 1 f fd ["self"] (spAhead C) := by
  refine F.ok scAh (fun vs H Q E h => ?_) (fun cdv A outer s H vs Q E hr h => ?_)
  · obtain ⟨p, dx, l, h, t, r, lm, rfl, _⟩ := h
    rfl
  · obtain ⟨p, dx, l, h, t, r, lm, rfl, hp, k⟩ := h
    refine ⟨_, pss_one (ps_ret (pe_tup (pa_cons (pe_fld (pv 0) rfl) (pa_cons (pe_fld (pv 0) rfl) pa_nil)))), ?_⟩
    exact ⟨_, rfl, p, C, dx, _, _, rfl, hp, T.cl, T.nT, pf_turn, _, rfl, p, C, dx, _, _, rfl, hp, T.cl, T.nN, pf_next, (by show 2 ≤ sizeLine; decide), k⟩
theorem scRe : FnScope ["self"] ["self"] (defScope sRests) := ⟨rfl, rfl, rfl, by decide +kernel, rfl, by decide +kernel, by decide +kernel⟩
theorem ok_rests {f C : Addr} {fd : FuncData} (F : Fun K "rests" "Beam.rests" sRests f fd) (T : Txt K mg C) : FnOk P w K mg base CX0 1 f fd ["self"] (spRests C) := by
  refine F.ok scRe (fun vs H Q E h => ?_) (fun cdv A outer s H vs Q E hr h => ?_)
  · obtain ⟨p, dx, l, h, t, r, lm, rfl, _⟩ := h
    rfl
  · obtain ⟨p, dx, l, h, t, r, lm, rfl, hp, k⟩ := h
    refine ⟨_, pss_one (ps_ret (pe_cmpR op_eq (pe_fld (pv 0) rfl) pe_int (nomark _))), ?_⟩
    refine ⟨_, rfl, p, C, dx, _, _, rfl, hp, T.cl, T.nN, pf_next, rfl, ?_⟩
    have e : decide (V.int r = V.int 0) = decide (r = 0) := by simp
    rw [← e] at k
    exact k
theorem scTo : FnScope ["self"] ["self"] (defScope sTorn) := ⟨rfl, rfl, rfl, by decide +kernel, rfl, by decide +kernel, by decide +kernel⟩
theorem ok_torn {f C : Addr} {fd : FuncData} (F : Fun K "torn" "Beam.torn" sTorn f fd) (T : Txt K mg C) : FnOk P w K mg base CX0 1 f fd ["self"] (spTorn C) := by
  refine F.ok scTo (fun vs H Q E h => ?_) (fun cdv A outer s H vs Q E hr h => ?_)
  · obtain ⟨p, dx, l, h, t, r, lm, xs, rfl, _⟩ := h
    rfl
  · obtain ⟨p, dx, l, h, t, r, lm, xs, rfl, hp, hL, k⟩ := h
    refine ⟨_, pss_one (ps_ret (pe_callTy call_list_of (by rfl) T.list (by decide +kernel) (pa_cons (pe_fld (pv 0) rfl) pa_nil))), ?_⟩
    exact ⟨_, rfl, p, C, dx, _, _, rfl, hp, T.cl, T.nO, pf_torn, l, xs, rfl, .inl (SqL.of hL), k⟩
end
end Bm

/-! The law's small defs. -/
namespace Bm
open PySem L2
/-! ### tuples of two ints in a list -/
inductive Tups (H : Hp) : List V → List (Int × Int) → Prop
  | nil : Tups H [] []
  | cons {a : Addr} {p : Int × Int} {xs : List V} {ps : List (Int × Int)} : H a = some (.tup [.int p.1, .int p.2]) → Tups H xs ps → Tups H (.ref a :: xs) (p :: ps)
theorem Tups.app {H : Hp} {a : Addr} {p : Int × Int} (h : H a = some (.tup [.int p.1, .int p.2])) : ∀ {xs : List V} {ps : List (Int × Int)}, Tups H xs ps → Tups H (xs ++ [.ref a]) (ps ++ [p])
  | _, _, .nil => .cons h .nil
  | _, _, .cons e t => .cons e (Tups.app h t)
theorem Tups.imp {H H' : Hp} (k : ∀ b ys, H b = some (.tup ys) → H' b = some (.tup ys)) : ∀ {xs : List V} {ps : List (Int × Int)}, Tups H xs ps → Tups H' xs ps
  | _, _, .nil => .nil
  | _, _, .cons e t => .cons (k _ _ e) (Tups.imp k t)
theorem Tups.same {H H' : Hp} (k : Same H H') {xs : List V} {ps : List (Int × Int)} (t : Tups H xs ps) : Tups H' xs ps := t.imp fun _ _ e => k _ _ e
theorem Tups.length {H : Hp} : ∀ {xs : List V} {ps : List (Int × Int)}, Tups H xs ps → xs.length = ps.length
  | _, _, .nil => rfl
  | _, _, .cons _ t => by rw [List.length_cons, List.length_cons, Tups.length t]
theorem Tups.get {H : Hp} : ∀ {xs : List V} {ps : List (Int × Int)} {v : V}, Tups H xs ps → v ∈ xs → ∃ (a : Addr) (i j : Int), v = .ref a ∧ H a = some (.tup [.int i, .int j])
  | _, _, _, .nil, h => by cases h
  | _, _, _, .cons e t, h => by
    rcases List.mem_cons.mp h with rfl | h
    · exact ⟨_, _, _, rfl, e⟩
    · exact Tups.get t h
/-- a pair as data -/
def pD (p : Int × Int) : PyData := .tuple [.int p.1, .int p.2]
theorem pD_lay (p : Int × Int) : (pD p).canLay0 = true := by simp [pD, PyData.canLay0, PyData.canLayAll0]
theorem pD_depth (p : Int × Int) : (pD p).depth = 1 := by simp [pD, PyData.depth, PyData.depthAll]
theorem pDs_lay : ∀ ps : List (Int × Int), PyData.canLayAll0 (ps.map pD) = true
  | [] => by simp [PyData.canLayAll0]
  | p :: ps => by simp [PyData.canLayAll0, pD_lay p, pDs_lay ps]
theorem pDs_depth : ∀ ps : List (Int × Int), PyData.depthAll (ps.map pD) ≤ 1
  | [] => by simp [PyData.depthAll]
  | p :: ps => by
    have h1 := pDs_depth ps
    have h2 := pD_depth p
    simp only [List.map_cons, PyData.depthAll]
    omega
theorem pD_shaped (p : Int × Int) : SeqAt.shaped (pD p) = true := by
  have h := pD_depth p
  show ((pD p).canLay0 && decide ((pD p).depth ≤ 64)) = true
  rw [Bool.and_eq_true]
  exact ⟨pD_lay p, decide_eq_true (by omega)⟩
theorem pDs_shaped (ps : List (Int × Int)) : SeqAt.shaped (.list (ps.map pD)) = true := by
  have h1 := pDs_depth ps
  have h2 : PyData.depth (.list (ps.map pD)) ≤ 64 := by
    simp only [PyData.depth]
    omega
  show (PyData.canLay0 (.list (ps.map pD)) && decide (PyData.depth (.list (ps.map pD)) ≤ 64)) = true
  rw [Bool.and_eq_true]
  exact ⟨by simp only [PyData.canLay0]; exact pDs_lay ps, decide_eq_true h2⟩
theorem shaped_refl {d : PyData} (h : SeqAt.shaped d = true) : PyData.eqv d d = true := SeqAt.eqv_refl d (SeqAt.canLay_of_shaped h)
theorem Tups.dp {K : PySem.W.Frag} {H : Hp} : ∀ {xs : List V} {ps : List (Int × Int)}, Tups H xs ps → DpAll K H xs (ps.map pD)
  | _, _, .nil => .nil
  | _, _, .cons e t => .cons (.tup (SqT.of e) (.cons (.int _) (.cons (.int _) .nil))) (Tups.dp t)
theorem Tups.dpL {K : PySem.W.Frag} {H : Hp} {a : Addr} {xs : List V} {ps : List (Int × Int)} (h : H a = some (.lst xs)) (t : Tups H xs ps) : Dp K H (.ref a) (.list (ps.map pD)) := .lst (SqL.of h) t.dp
/-! ### promises -/
def spDraw (K : PySem.W.Frag) : Sp := fun vs H Q _ => ∃ (a : Addr) (k p m : Int) (ns : List Int), vs = [.ref a, .int k, .int p, .int m] ∧ SqL K H a (ns.map V.int) ∧ 0 ≤ k ∧ k ≤ 1000 ∧ 0 < p ∧ 0 < m ∧
  ∀ r : Int, 0 ≤ r → r < m → Q (.int r) H
def spWhole : Sp := fun vs H Q _ => ∃ i : Int, vs = [.int i] ∧ Q (.bl true) H
def spPair : Sp := fun vs H Q _ => ∃ (a b : Addr) (i j : Int), vs = [.ref a, .ref b] ∧ H a = some (.tup [.int i, .int j]) ∧ H b = some (.tup [.int i, .int j]) ∧ ∀ H', Same H H' → Q (.bl true) H'
def spLTorn : Sp := fun vs H Q _ => ∃ (m : Addr) (h : Nat) (ms : List Int), vs = [.ref m, .int h] ∧ H m = some (.lst (ms.map V.int)) ∧ 0 < h ∧ h ≤ 64 ∧ ms.length ≤ 1000 ∧
  ∀ (p : Addr) (xs : List V) (H' : Hp), Same H H' → H p = none → H' p = some (.lst xs) → Tups H' xs (torn ms h) → Q (.ref p) H'
def spMake : Sp := fun vs H Q _ => ∃ (c : Int) (m : Addr) (ms : List Int), vs = [.int c, .ref m] ∧ H m = some (.lst (ms.map V.int)) ∧ ∀ z : Int, Q (.int z) H
def spCells (K : PySem.W.Frag) : Sp := fun vs H Q _ => ∃ (a : Addr) (ns : List Int), vs = [.ref a] ∧ SqL K H a (ns.map V.int) ∧ ns.length ≤ 63 ∧
  ∀ (p : Addr) (cs : List Int) (H' : Hp), Same H H' → H p = none → H' p = some (.lst (cs.map V.int)) → cs.length ≤ 61 → Q (.ref p) H'
theorem line1 {n : Nat} (h : n ≤ 5000) : n < sizeLine := Nat.lt_of_le_of_lt h (by decide)
theorem map_get {ns : List Int} {i : Nat} {v : V} (h : (ns.map V.int)[i]? = some v) : ∃ n, ns[i]? = some n ∧ v = .int n := by
  rw [List.getElem?_map] at h
  cases e : ns[i]? with
  | none => rw [e] at h; cases h
  | some u =>
    rw [e] at h
    exact ⟨u, rfl, (Option.some.inj h).symm⟩
section
variable {P : Program} {w : World} {K : PySem.W.Frag} {mg : Str → Option Value} {base : Heap}
theorem scD : FnScope ["_law_script", "_law_k", "_law_prime", "_law_many"] ["_law_script", "_law_k", "_law_prime", "_law_many"] (defScope sDraw) := ⟨rfl, rfl, rfl, by decide +kernel, rfl, by decide +kernel, by decide +kernel⟩
theorem ok_draw {f C : Addr} {fd : FuncData} (F : Fun K "_law_draw" "_law_draw" sDraw f fd) (T : Txt K mg C) : FnOk P w K mg base CX0 1 f fd ["_law_script", "_law_k", "_law_prime", "_law_many"] (spDraw K) := by
  refine F.ok scD (fun vs H Q E h => ?_) (fun cdv A outer s H vs Q E hr h => ?_)
  · obtain ⟨a, k, p, m, ns, rfl, _⟩ := h
    rfl
  · obtain ⟨a, k, p, m, ns, rfl, hS, k0, k1, p0, m0, go⟩ := h
    refine ⟨_, pss_cons (ps_if (pt_cmpR op_eq (pe_callB call_len_seq (by rfl) T.len PySem.boot_len (pa_cons (pv 0) pa_nil)) pe_int (nomark _)) (pss_one (ps_ret pe_int)) pss_nil)
      (pss_one (ps_ret (pe_op op_mod (pe_op op_mod (pe_op op_mul (pe_op op_add (pe_ix ix_list (pv 0) (pe_op op_mod (pv 1) (pe_callB call_len_seq (by rfl) T.len PySem.boot_len (pa_cons (pv 0) pa_nil))) (fun _ _ => rfl))
        (pe_op op_mul (pv 1) (pv 1))) pe_int) (pv 2)) (pv 3)))), ?_⟩
    refine ⟨_, rfl, a, _, rfl, .inl hS, rfl, _, rfl, ?_⟩
    refine ite2 (fun c => go 0 (Int.le_refl _) m0) (fun c => ?_)
    have hn : 0 < ns.length := by
      have q : ¬ V.int (((ns.map V.int).length : Nat) : Int) = V.int 0 := fun z => c (decide_eq_true z)
      rw [List.length_map] at q
      exact Nat.pos_of_ne_zero fun z => q (by rw [z]; rfl)
    have hn' : (0 : Int) < (((ns.map V.int).length : Nat) : Int) := by rw [List.length_map]; omega
    obtain ⟨j, ej⟩ : ∃ j : Nat, k % (((ns.map V.int).length : Nat) : Int) = (j : Int) := ⟨(k % (((ns.map V.int).length : Nat) : Int)).toNat, by have := Int.emod_nonneg k (Int.ne_of_gt hn'); omega⟩
    have hj : j < ns.length := by
      have := Int.emod_lt_of_pos k hn'
      rw [List.length_map] at this ej
      omega
    refine ⟨_, rfl, _, rfl, _, rfl, a, _, rfl, .inl hS, _, _, rfl, rfl, hn', a, _, _, .int ns[j], rfl, rfl, hS, at_of (j := j) ej (by rw [List.getElem?_map, List.getElem?_eq_getElem hj]; rfl), ?_⟩
    refine ⟨_, rfl, _, rfl, _, _, rfl, rfl, .inl ⟨by omega, by omega⟩, _, _, rfl, rfl, _, _, rfl, rfl, .inr ⟨by decide, by decide⟩, _, rfl, _, _, rfl, rfl, p0, _, rfl, _, _, rfl, rfl, m0, ?_⟩
    exact go _ (Int.emod_nonneg _ (Int.ne_of_gt m0)) (Int.emod_lt_of_pos _ m0)
theorem scW : FnScope ["_law_found"] ["_law_found"] (defScope sWhole) := ⟨rfl, rfl, rfl, by decide +kernel, rfl, by decide +kernel, by decide +kernel⟩
theorem ok_whole {f C : Addr} {fd : FuncData} (F : Fun K "_law_whole" "_law_whole" sWhole f fd) (T : Txt K mg C) : FnOk P w K mg base CX0 1 f fd ["_law_found"] spWhole := by
  refine F.ok scW (fun vs H Q E h => ?_) (fun cdv A outer s H vs Q E hr h => ?_)
  · obtain ⟨i, rfl, _⟩ := h
    rfl
  · obtain ⟨i, rfl, k⟩ := h
    refine ⟨_, pss_one (ps_ret (pe_and (pe_callB call_isi (by rfl) T.isi (by decide +kernel) (pa_cons (pv 0) (pa_cons (pe_bltn (v := .ty "int") (by rfl) T.int (by decide +kernel) rfl) pa_nil)))
      (pe_one (pe_not (pe_callB call_isi (by rfl) T.isi (by decide +kernel) (pa_cons (pv 0) (pa_cons (pe_bltn (v := .ty "bool") (by rfl) T.bool (by decide +kernel) rfl) pa_nil))))))), ?_⟩
    refine ⟨_, rfl, _, _, _, _, true, rfl, .ty _, .base (.int i), kit_ty (by decide +kernel), _, rfl, iteT ?_⟩
    exact ⟨_, rfl, _, _, _, _, false, rfl, .ty _, .base (.int i), kit_ty (by decide +kernel), _, rfl, k⟩
theorem scP : FnScope ["_law_found", "_law_due", "_law_one"] ["_law_found", "_law_due"] (defScope sPair) := ⟨rfl, rfl, rfl, by decide +kernel, rfl, by decide +kernel, by decide +kernel⟩
theorem all_true (n : Nat) : (List.replicate n true).all id = true := by
  rw [List.all_eq_true]
  intro x hx
  rw [List.eq_of_mem_replicate hx]
  rfl
theorem rep_app (n : Nat) : (List.replicate n true).map V.bl ++ [V.bl true] = (List.replicate (n + 1) true).map V.bl := by
  rw [List.replicate_succ', List.map_append]
  rfl
theorem ok_pair {f fW C : Addr} {fd fdW : FuncData} (F : Fun K "_law_pair" "_law_pair" sPair f fd) (T : Txt K mg C) (FW : Fun K "_law_whole" "_law_whole" sWhole fW fdW) (mW : mg "_law_whole" = some (.ref fW)) (bW : Binds K fdW ["_law_found"] []) :
    FnOk P w K mg base CX0 2 f fd ["_law_found", "_law_due"] spPair := by
  have GW : FnOk P w K mg base CX0 1 fW fdW ["_law_found"] spWhole := ok_whole FW T
  refine F.ok scP (fun vs H Q E h => ?_) (fun cdv A outer s H vs Q E hr h => ?_)
  · obtain ⟨a, b, i, j, rfl, _⟩ := h
    rfl
  · obtain ⟨a, b, i, j, rfl, ha, hb, k⟩ := h
    refine ⟨_, pss_cons (ps_if (PW.pt (pw_or (pt_not (pt_val (pe_callB call_isi (by rfl) T.isi (by decide +kernel) (pa_cons (pv 0) (pa_cons (pe_bltn (v := .ty "tuple") (by rfl) T.tuple (by decide +kernel) rfl) pa_nil)))))
        (pw_or (pt_cmpR op_ne (pe_callB call_len_seq (by rfl) T.len PySem.boot_len (pa_cons (pv 0) pa_nil)) pe_int (nomark _))
          (pw_or1 (pt_not (pt_val (pe_callB (cr_all rfl) (by rfl) T.all (by decide +kernel) (pa_cons
            (pe_lc (own := [("_law_one", 2)]) (g := gName 2) (tt := tYes) rfl scP.nd (pi_tup (pv 0)) (blkOk_by (own := [("_law_one", 2)]) (N := ["_law_found", "_law_due", "_law_one"]) (sc := defScope sPair) (by decide +kernel))
              (fun _ _ _ _ _ => pg_name (i := 2) scP.nd rfl (Or.inl rfl)) (fun _ _ _ _ _ => pts_nil) (fun _ _ _ _ _ => pe_call GW hr (by rfl) mW FW.kp bW .nil pass0 (pa_cons (pv 2) pa_nil))) pa_nil))))))))
        (pss_one (ps_ret pe_bl)) pss_nil)
      (pss_one (ps_ret (pe_cmpR (op_eqD hr.units) (pv 0) (pv 1) (nomark _)))), ?_⟩
    refine ⟨_, rfl, _, _, _, _, true, rfl, .ty _, .base (.tup ha), kit_ty (by decide +kernel), _, rfl, ?_⟩
    refine iteF ?_
    refine ⟨_, rfl, a, _, rfl, .inr (SqT.of ha), rfl, _, rfl, ?_⟩
    refine ite2 (fun c => absurd c (by simp)) (fun _ => ?_)
    refine ⟨_, rfl, a, rfl, ⟨_, SqT.of ha⟩, fun D hD => lc_tup (K := K) (a := a) (xs := [.int i, .int j]) (fun n H' => Same H H' ∧ H' D = some (.lst ((List.replicate n true).map V.bl)) ∧ n ≤ 2) ?_ ?_ ?_ ?_⟩
    · exact ⟨fun c o e => by rw [upd_ne (ne_of_none e hD)]; exact e, upd_same, by decide⟩
    · exact fun n H' _ ⟨s1, _, _⟩ => SqT.of (s1 _ _ ha)
    · rintro n x H' hx ⟨s1, h1, h2⟩
      have hn : n < 2 := (List.getElem?_eq_some_iff.mp hx).1
      obtain ⟨z, rfl⟩ : ∃ z : Int, x = .int z := by
        match n, hx with
        | 0, hx => exact ⟨i, (Option.some.inj hx).symm⟩
        | 1, hx => exact ⟨j, (Option.some.inj hx).symm⟩
        | n + 2, hx => simp at hx
      refine ⟨rfl, ?_⟩
      refine ⟨_, rfl, z, rfl, _, h1, by rw [List.length_map, List.length_replicate]; exact line1 (by omega), ?_⟩
      refine ⟨fun c o e => ?_, by rw [upd_same, rep_app], by omega⟩
      rw [upd_ne (ne_of_none e hD)]
      exact s1 c o e
    · rintro H' ⟨s1, h1, _⟩
      refine ⟨D, _, rfl, SqL.of h1, true, by rw [all_true], ?_⟩
      refine iteF ?_
      refine ⟨_, rfl, _, rfl, pD (i, j), pD (i, j), .tup (SqT.of (s1 _ _ ha)) (.cons (.int _) (.cons (.int _) .nil)), .tup (SqT.of (s1 _ _ hb)) (.cons (.int _) (.cons (.int _) .nil)), pD_shaped _, pD_shaped _, ?_⟩
      rw [shaped_refl (pD_shaped (i, j))]
      exact k _ s1
end
end Bm

/-! The law's own torn rows, its makes, its cells. -/
namespace Bm
open PySem L2
section
variable {P : Program} {w : World} {K : PySem.W.Frag} {mg : Str → Option Value} {base : Heap}
theorem scT : FnScope ["_law_makes", "_law_high", "_law_due", "_law_k"] ["_law_makes", "_law_high"] (defScope sLTorn) := ⟨rfl, rfl, rfl, by decide +kernel, rfl, by decide +kernel, by decide +kernel⟩
theorem ok_ltorn {f C : Addr} {fd : FuncData} (F : Fun K "_law_torn" "_law_torn" sLTorn f fd) (T : Txt K mg C) : FnOk P w K mg base CX0 1 f fd ["_law_makes", "_law_high"] spLTorn := by
  refine F.ok scT (fun vs H Q E h => ?_) (fun cdv A outer s H vs Q E hr h => ?_)
  · obtain ⟨m, h, ms, rfl, _⟩ := h
    rfl
  · obtain ⟨m, h, ms, rfl, hm, h0, h64, hlen, k⟩ := h
    refine ⟨_, pss_cons (ps_set (i := 2) scT.nd rfl (Or.inl rfl) (pe_lst pa_nil))
      (pss_cons (ps_for PassesOwn.never rfl (pi_range2 (by rfl) T.range (pa_cons pe_int (pa_cons (pe_callB call_len_seq (by rfl) T.len PySem.boot_len (pa_cons (pv 0) pa_nil)) pa_nil))) (pg_name (i := 3) scT.nd rfl (Or.inl rfl))
        (pss_one (ps_if (PW.pt (pw_and (pt_cmpR op_gt (pe_op op_mod (pv 3) (pv 1)) pe_int (nomark _))
            (pw_and1 (pt_cmpR op_ne (pe_ix ix_list (pv 0) (pv 3) (fun _ _ => rfl)) (pe_ix ix_list (pv 0) (pe_op op_sub (pv 3) pe_int) (fun _ _ => rfl)) (nomark _)))))
          (pss_one (ps_expr (pe_bm PySem.F.plainAttrs_list PySem.F.slot_list_append PySem.F.type_list_append mt_append (pv 2)
            (pa_cons (pe_tup (pa_cons (pe_op op_fdiv (pv 3) (pv 1)) (pa_cons (pe_op op_mod (pv 3) (pv 1)) pa_nil))) pa_nil)))) pss_nil)))
      (pss_one (ps_ret (pv 2)))), ?_⟩
    refine ⟨Nat.zero_le _, fun p hp => ?_⟩
    have s0 : Same H (upd H p (.lst [])) := fun c o e => by rw [upd_ne (ne_of_none e hp)]; exact e
    have hl : (ms.map V.int).length = ms.length := List.length_map _
    refine ⟨_, rfl, m, _, rfl, .inl (SqL.of (s0 _ _ hm)), 1, ((ms.map V.int).length : Int), rfl, ⟨by decide, by decide, by omega, by omega⟩, ?_⟩
    refine for_range (lo := 1) (n := (((ms.map V.int).length : Int) - 1).toNat) (fun i σ H' => ∃ (v : Option V) (xs : List V), σ = [some (.ref m), some (.int h), some (.ref p), v] ∧ Same H H' ∧ H' p = some (.lst xs) ∧ Tups H' xs (tornTo ms h (i + 1)) ∧ xs.length ≤ i)
      ⟨none, [], rfl, s0, upd_same, ?_, Nat.le_refl _⟩ ?_ ?_
    · have e : tornTo ms h (0 + 1) = [] := by
        show (if 0 < 0 % h ∧ _ then _ else []) = []
        rw [if_neg (fun z => by have := z.1; simp at this)]
      rw [e]
      exact .nil
    · rintro i σ H' hi ⟨v, xs, rfl, s1, hx, tx, hxl⟩
      have hi' : i + 1 < ms.length := by omega
      have ek : (1 : Int) + (i : Int) = ((i + 1 : Nat) : Int) := by omega
      have ek1 : (1 : Int) + (i : Int) - 1 = (i : Int) := by omega
      have hm' := s1 _ _ hm
      have hh : (0 : Int) < (h : Int) := by omega
      have hd : (1 + (i : Int)) / (h : Int) = (((i + 1) / h : Nat) : Int) := by rw [ek]; exact cast_div _ _
      have hr2 : (1 + (i : Int)) % (h : Int) = (((i + 1) % h : Nat) : Int) := by rw [ek]; exact cast_mod _ _
      have g1 : (ms.map V.int)[i + 1]? = some (.int ms[i + 1]) := by rw [List.getElem?_map, List.getElem?_eq_getElem hi']; rfl
      have g0 : (ms.map V.int)[i]? = some (.int ms[i]) := by rw [List.getElem?_map, List.getElem?_eq_getElem (show i < ms.length by omega)]; rfl
      have m1 : ms[i + 1]? = some ms[i + 1] := List.getElem?_eq_getElem hi'
      have m0 : ms[i + 1 - 1]? = some ms[i] := List.getElem?_eq_getElem (show i < ms.length by omega)
      have un : tornTo ms h (i + 1 + 1) = if 0 < (i + 1) % h ∧ ms[i + 1]? ≠ ms[i + 1 - 1]? then tornTo ms h (i + 1) ++ [((((i + 1) / h : Nat) : Int), (((i + 1) % h : Nat) : Int))] else tornTo ms h (i + 1) := rfl
      rw [m1, m0] at un
      refine ⟨_, rfl, _, rfl, _, _, rfl, rfl, hh, _, _, rfl, rfl, _, rfl, ?_⟩
      refine ite2 (fun c1 => ?_) (fun c1 => ?_)
      · have c1' : 0 < (i + 1) % h := by
          have := of_decide_eq_true c1
          rw [hr2] at this
          omega
        refine ⟨_, rfl, _, rfl, m, _, _, _, rfl, rfl, SqL.of hm', at_of ek g1, _, rfl, _, rfl, _, _, rfl, rfl, m, _, _, _, rfl, rfl, SqL.of hm', at_of ek1 g0, rfl, _, rfl, ?_⟩
        refine ite2 (fun c2 => ?_) (fun c2 => ?_)
        · have c2' : ms[i + 1] ≠ ms[i] := fun z => by rw [z] at c2; simp at c2
          refine ⟨_, rfl, .inl ⟨rfl, _, SqL.of hx⟩, _, rfl, _, rfl, _, _, rfl, rfl, ⟨hh, by omega⟩, _, rfl, _, rfl, _, _, rfl, rfl, hh, (by show 2 ≤ sizeLine; decide), fun u hu => ?_⟩
          have npu : p ≠ u := ne_of_none hx hu
          refine ⟨p, _, _, rfl, rfl, (by rw [upd_ne npu]; exact hx), line1 (by omega), ?_⟩
          have k1 : ∀ c ys, H' c = some (.tup ys) → upd (upd H' u (.tup [.int ((1 + (i : Int)) / (h : Int)), .int ((1 + (i : Int)) % (h : Int))])) p (.lst (xs ++ [.ref u])) c = some (.tup ys) := fun c ys e => by
            rw [upd_ne (ne_of e hx (by intro z; cases z)), upd_ne (ne_of_none e hu)]
            exact e
          refine ⟨_, _, rfl, fun c o e => ?_, upd_same, ?_, by rw [List.length_append, List.length_singleton]; omega⟩
          · rw [upd_ne (ne_of_none e hp), upd_ne (ne_of_none (s1 _ _ e) hu)]
            exact s1 _ _ e
          · rw [un, if_pos ⟨c1', fun z => c2' (Option.some.inj z)⟩]
            refine (tx.imp k1).app ?_
            rw [upd_ne npu.symm, upd_same, hd, hr2]
        · have c2' : ms[i + 1] = ms[i] := by simpa using c2
          refine ⟨_, xs, rfl, s1, hx, ?_, by omega⟩
          rw [un, if_neg (fun z => z.2 (by rw [c2']))]
          exact tx
      · have c1' : ¬ 0 < (i + 1) % h := fun z => c1 (decide_eq_true (by rw [hr2]; omega))
        refine ite2 (fun c2 => absurd c2 (by simp)) (fun _ => ?_)
        refine ⟨_, xs, rfl, s1, hx, ?_, by omega⟩
        rw [un, if_neg (fun z => c1' z.1)]
        exact tx
    · rintro σ H' ⟨v, xs, rfl, s1, hx, tx, _⟩
      refine ⟨_, rfl, k p xs H' s1 hp hx ?_⟩
      have e : tornTo ms h ((((ms.map V.int).length : Int) - 1).toNat + 1) = torn ms h := by
        unfold torn
        by_cases z : ms.length = 0
        · have q : (((ms.map V.int).length : Int) - 1).toNat = 0 := by omega
          rw [q, z]
          show (if 0 < 0 % h ∧ _ then _ else []) = []
          rw [if_neg (fun z => by have := z.1; simp at this)]
        · have q : (((ms.map V.int).length : Int) - 1).toNat + 1 = ms.length := by omega
          rw [q]
      rw [e] at tx
      exact tx
theorem scM : FnScope ["_law_cell", "_law_makes"] ["_law_cell", "_law_makes"] (defScope sMake) := ⟨rfl, rfl, rfl, by decide +kernel, rfl, by decide +kernel, by decide +kernel⟩
theorem ok_make {f C : Addr} {fd : FuncData} (F : Fun K "_law_make" "_law_make" sMake f fd) (T : Txt K mg C) : FnOk P w K mg base CX0 1 f fd ["_law_cell", "_law_makes"] spMake := by
  refine F.ok scM (fun vs H Q E h => ?_) (fun cdv A outer s H vs Q E hr h => ?_)
  · obtain ⟨c, m, ms, rfl, _⟩ := h
    rfl
  · obtain ⟨c, m, ms, rfl, hm, k⟩ := h
    refine ⟨_, pss_cons (ps_if (pt_cmpR op_eq (pe_op op_mod (pe_op op_fdiv (pv 0) pe_int) pe_int) pe_int (nomark _)) (pss_one (ps_ret (pv 0))) pss_nil)
      (pss_cons (ps_if (pt_cmpR op_eq (pe_op op_mod (pe_op op_fdiv (pv 0) pe_int) pe_int) pe_int (nomark _)) (pss_one (ps_ret (pe_op op_mod (pe_op op_fdiv (pv 0) pe_int) pe_int))) pss_nil)
      (pss_one (ps_ret (pe_ifExp (pt_cmpR op_gt (pe_callB call_len_seq (by rfl) T.len PySem.boot_len (pa_cons (pv 1) pa_nil)) pe_int (nomark _)) (pe_ix ix_list (pv 1) (pe_un un_neg pe_int) (fun _ _ => rfl)) pe_int)))), ?_⟩
    refine ⟨_, rfl, _, _, rfl, rfl, ⟨by decide, by decide⟩, _, _, rfl, rfl, (by show (0 : Int) < 4; decide), rfl, _, rfl, ?_⟩
    refine ite2 (fun _ => ⟨_, rfl, k c⟩) (fun _ => ?_)
    refine ⟨_, rfl, _, _, rfl, rfl, ⟨by decide, by decide⟩, _, _, rfl, rfl, (by show (0 : Int) < 4; decide), rfl, _, rfl, ?_⟩
    refine ite2 (fun _ => ⟨_, rfl, _, _, rfl, rfl, ⟨by decide, by decide⟩, _, _, rfl, rfl, (by show (0 : Int) < 3; decide), k _⟩) (fun _ => ?_)
    refine ⟨_, rfl, m, _, rfl, .inl (SqL.of hm), _, _, rfl, rfl, _, rfl, ?_⟩
    refine ite2 (fun c1 => ?_) (fun _ => k 7)
    have hn : 0 < (ms.map V.int).length := by
      have := of_decide_eq_true c1
      omega
    have hn' : ms.length - 1 < ms.length := by rw [List.length_map] at hn; omega
    refine ⟨_, rfl, _, rfl, m, _, _, .int ms[ms.length - 1], rfl, rfl, SqL.of hm, ?_, k _⟩
    unfold atI ixN
    rw [if_neg (by decide), if_pos (by omega)]
    show (ms.map V.int)[(-1 + ((ms.map V.int).length : Int)).toNat]? = _
    have e : (-1 + ((ms.map V.int).length : Int)).toNat = ms.length - 1 := by rw [List.length_map]; omega
    rw [e, List.getElem?_map, List.getElem?_eq_getElem hn']
    rfl
theorem scC : FnScope ["_law_script", "_law_many", "_law_more", "_law_k"] ["_law_script"] (defScope sCells) := ⟨rfl, rfl, rfl, by decide +kernel, rfl, by decide +kernel, by decide +kernel⟩
theorem cut_ints (ns : List Int) (lo hi : Option Int) : ∃ cs : List Int, cutV (ns.map V.int) lo hi = cs.map V.int ∧ cs.length ≤ ns.length := by
  refine ⟨(ns.drop (HT.sIx (ns.map V.int).length 0 lo)).take (HT.sIx (ns.map V.int).length (ns.map V.int).length hi - HT.sIx (ns.map V.int).length 0 lo), ?_, ?_⟩
  · unfold cutV
    rw [← List.map_drop, ← List.map_take]
  · rw [List.length_take, List.length_drop]
    omega
theorem cut_61 (xs : List V) : (cutV xs none (some 61)).length ≤ 61 := by
  unfold cutV
  rw [List.length_take, List.length_drop]
  have e : HT.sIx xs.length 0 none = 0 := rfl
  have e2 : HT.sIx xs.length xs.length (some 61) = min 61 xs.length := HT.sIx_nat _ _ 61
  rw [e, e2]
  omega
theorem ok_cells {f fD C : Addr} {fd fdD : FuncData} (F : Fun K "_law_cells" "_law_cells" sCells f fd) (T : Txt K mg C) (FD : Fun K "_law_draw" "_law_draw" sDraw fD fdD) (mD : mg "_law_draw" = some (.ref fD))
    (bD : Binds K fdD ["_law_script", "_law_k", "_law_prime", "_law_many"] []) : FnOk P w K mg base CX0 2 f fd ["_law_script"] (spCells K) := by
  have GD : FnOk P w K mg base CX0 1 fD fdD ["_law_script", "_law_k", "_law_prime", "_law_many"] (spDraw K) := ok_draw FD T
  refine F.ok scC (fun vs H Q E h => ?_) (fun cdv A outer s H vs Q E hr h => ?_)
  · obtain ⟨a, ns, rfl, _⟩ := h
    rfl
  · obtain ⟨a, ns, rfl, hS, hlen, k⟩ := h
    refine ⟨_, pss_cons (ps_set (i := 1) scC.nd rfl (Or.inl rfl) (pe_call GD hr (by rfl) mD FD.kp bD .nil pass0 (pa_cons (pv 0) (pa_cons pe_int (pa_cons pe_int (pa_cons pe_int pa_nil))))))
      (pss_cons (ps_setLc (i := 2) (own := [("_law_k", 3)]) (g := gName 3) (tt := tYes) rfl scC.nd rfl rfl (sw_true rfl rfl rfl (by decide +kernel)) (pi_range1 (by rfl) T.range (pa_cons (pv 1) pa_nil))
        (blkOk_by (own := [("_law_k", 3)]) (N := ["_law_script", "_law_many", "_law_more", "_law_k"]) (sc := defScope sCells) (by decide +kernel))
        (fun _ _ _ _ _ => pg_name (i := 3) scC.nd rfl (Or.inl rfl)) (fun _ _ _ _ _ => pts_nil)
        (fun _ _ _ _ _ => pe_call GD hr (by rfl) mD FD.kp bD .nil pass0 (pa_cons (pv 0) (pa_cons (pe_op op_add pe_int (pv 3)) (pa_cons pe_int (pa_cons pe_int pa_nil))))))
      (pss_one (ps_ret (pe_slice sl_list (pe_op op_cat (pe_slice sl_list (pv 0) (po_some pe_int) (po_some pe_int)) (pv 2)) po_none (po_some pe_int))))), ?_⟩
    refine ⟨_, rfl, a, 5, 10099, 40, ns, rfl, hS, by decide, by decide, by decide, by decide, fun r r0 r1 => ?_⟩
    refine ⟨_, rfl, r, rfl, by omega, by omega, fun D hD => ?_⟩
    refine lc_range (lo := 0) (n := r.toNat) (fun i H' => Same H H' ∧ ∃ cs : List Int, H' D = some (.lst (cs.map V.int)) ∧ cs.length ≤ i) ?_ ?_ ?_
    · exact ⟨fun c o e => by rw [upd_ne (ne_of_none e hD)]; exact e, [], upd_same, Nat.le_refl _⟩
    · rintro i H' hi ⟨s1, cs, h1, h2⟩
      refine ⟨rfl, ?_⟩
      refine ⟨_, rfl, _, rfl, _, _, rfl, rfl, a, _, 999983, 999983, ns, rfl, s1.seq hS, by omega, by omega, by decide, by decide, fun z z0 z1 => ?_⟩
      refine ⟨_, h1, by rw [List.length_map]; exact line1 (by omega), ?_, cs ++ [z], ?_, ?_⟩
      · intro c o e
        rw [upd_ne (ne_of_none e hD)]
        exact s1 c o e
      · rw [upd_same, List.map_append]
        rfl
      · rw [List.length_append, List.length_singleton]
        omega
    · rintro H1 ⟨s1, cs, h1, h2⟩
      obtain ⟨c1, e1, l1⟩ := cut_ints ns (some 2) (some 63)
      refine ⟨_, rfl, _, rfl, _, rfl, a, _, rfl, s1.seq hS, fun p hp => ?_⟩
      have nDp : D ≠ p := ne_of_none h1 hp
      refine ⟨_, rfl, p, D, _, _, rfl, rfl, upd_same, by rw [upd_ne nDp]; exact h1, ?_, fun q hq => ?_⟩
      · rw [e1, List.length_map, List.length_map]
        exact Nat.le_of_lt (line1 (by omega))
      rw [e1] at hq ⊢
      rw [← List.map_append]
      obtain ⟨c2, e2, l2⟩ := cut_ints (c1 ++ cs) none (some 61)
      have l61 := cut_61 ((c1 ++ cs).map V.int)
      rw [e2, List.length_map] at l61
      refine ⟨_, rfl, q, _, rfl, SqL.of upd_same, fun y hy => ?_⟩
      rw [e2]
      refine k y c2 _ ?_ ?_ upd_same l61
      · intro c o e
        have e' := s1 c o e
        have z1 : upd H1 p (.lst (c1.map V.int)) c = some o := by rw [upd_ne (ne_of_none e' hp)]; exact e'
        have z2 : upd (upd H1 p (.lst (c1.map V.int))) q (.lst ((c1 ++ cs).map V.int)) c = some o := by rw [upd_ne (ne_of_none z1 hq)]; exact z1
        rw [upd_ne (ne_of_none z2 hy)]
        exact z2
      · refine Same.free (H' := upd (upd H1 p (.lst (c1.map V.int))) q (.lst ((c1 ++ cs).map V.int))) (fun c o e => ?_) hy
        have e' := s1 c o e
        have z1 : upd H1 p (.lst (c1.map V.int)) c = some o := by rw [upd_ne (ne_of_none e' hp)]; exact e'
        rw [upd_ne (ne_of_none z1 hq)]
        exact z1
end
end Bm

/-! The law's step and look. -/
namespace Bm
open PySem L2
theorem same_new {H H' : Hp} {u : Addr} {o : HO} (k : Same H H') (n : H' u = none) : Same H (upd H' u o) := fun c q e => by
  rw [upd_ne (ne_of_none (k c q e) n)]
  exact k c q e
/-- where a state of the law stands: its tuple, its beam, the beam's dict and list of torn ones, the makes, the height -/
structure Rec where
  s : Addr
  b : Addr
  dx : Addr
  l : Addr
  m : Addr
  h : Nat
/-- a state that was told the makes ms -/
structure StAt (C : Addr) (H : Hp) (r : Rec) (ms : List Int) : Prop where
  hs : H r.s = some (.tup [.ref r.b, .int r.h, .ref r.m])
  hb : H r.b = some (.ins C r.dx (pf r.h ((ms.length / r.h : Nat) : Int) ((ms.length % r.h : Nat) : Int) (lastOf ms) r.l))
  hl : ∃ xs, H r.l = some (.lst xs) ∧ Tups H xs (torn ms r.h)
  hm : H r.m = some (.lst (ms.map V.int))
  lm : r.l ≠ r.m
  h0 : 0 < r.h
  h64 : r.h ≤ 64
theorem StAt.keep {C : Addr} {H H' : Hp} {r : Rec} {ms : List Int} {S : List Addr} (x : StAt C H r ms) (k : Keep S H H') (nb : r.b ∉ S) (nl : r.l ∉ S) (nm : r.m ∉ S) (nt : ∀ b ys, H b = some (.tup ys) → b ∉ S) : StAt C H' r ms := by
  obtain ⟨hs, hb, ⟨xs, hl, tx⟩, hm, lm, h0, h64⟩ := x
  exact ⟨k _ _ hs (nt _ _ hs), k _ _ hb nb, ⟨xs, k _ _ hl nl, tx.imp fun b ys e => k _ _ e (nt _ _ e)⟩, k _ _ hm nm, lm, h0, h64⟩
theorem StAt.same {C : Addr} {H H' : Hp} {r : Rec} {ms : List Int} (x : StAt C H r ms) (k : Same H H') : StAt C H' r ms :=
  x.keep (Keep.same (S := []) k) (by simp) (by simp) (by simp) (fun _ _ _ => by simp)
def spStands (C : Addr) : Sp := fun vs H Q _ => ∃ (r : Rec) (T : Addr) (ms : List Int) (ts : List V), vs = [.ref r.s, .ref T] ∧ StAt C H r ms ∧ ms.length ≤ 1000 ∧ H T = some (.lst ts) ∧ ts.length ≤ 1000 ∧ T ≠ r.l ∧ T ≠ r.m ∧
  ∀ (u q q2 : Addr) (ys : List V) (H' : Hp), H u = none → H q = none → H q2 = none → H' T = some (.lst (ts ++ [.ref u])) → H' u = some (.tup [.ref q, .ref q2]) → H' q = some (.lst ys) → H' q2 = some (.lst ys) →
    Tups H' ys (torn ms r.h) → Keep [T] H H' → Q (.bl true) H'
def spStepped (C : Addr) : Sp := fun vs H Q _ => ∃ (r : Rec) (ms : List Int) (z : Int), vs = [.ref r.s, .int z] ∧ StAt C H r ms ∧ ms.length ≤ 1000 ∧
  ∀ H' : Hp, StAt C H' r (ms ++ [z]) → Keep [r.b, r.l, r.m] H H' → Q (.bl true) H'
section
variable {P : Program} {w : World} {K : PySem.W.Frag} {mg : Str → Option Value} {base : Heap}
theorem scSp : FnScope ["_law_state", "_law_make_here", "_law_beam", "_law_high", "_law_makes", "_law_spot"] ["_law_state", "_law_make_here"] (defScope sStepped) := ⟨rfl, rfl, rfl, by decide +kernel, rfl, by decide +kernel, by decide +kernel⟩
theorem ok_stepped {f fP fS C : Addr} {fd fdP fdS : FuncData} (F : Fun K "_law_stepped" "_law_stepped" sStepped f fd) (T : Txt K mg C)
    (GP : FnOk P w K mg base CX0 2 fP fdP ["_law_found", "_law_due"] spPair) (mP : mg "_law_pair" = some (.ref fP)) (kP : PySem.W.keepIn K (.ref fP) = true) (bP : Binds K fdP ["_law_found", "_law_due"] [])
    (GS : FnOk P w K mg base CX0 1 fS fdS ["self", "make"] (spStep C)) (mS : Meth K C "step" fS) (bS : Binds K fdS ["self", "make"] []) :
    FnOk P w K mg base CX0 3 f fd ["_law_state", "_law_make_here"] (spStepped C) := by
  refine F.ok scSp (fun vs H Q E h => ?_) (fun cdv A outer s H vs Q E hr h => ?_)
  · obtain ⟨r, ms, z, rfl, _⟩ := h
    rfl
  · obtain ⟨r, ms, z, rfl, x, hlen, k⟩ := h
    have hr1 : Room 1 _ := hr.mono (by decide)
    obtain ⟨hs, hb, ⟨xs, hl, tx⟩, hm, lm, h0, h64⟩ := id x
    refine ⟨_, pss_cons (ps_asg (pv 0) (pg_tup rfl (pgs_cons (pg_name (i := 2) scSp.nd rfl (Or.inl rfl)) (pgs_cons (pg_name (i := 3) scSp.nd rfl (Or.inl rfl)) (pgs_cons (pg_name (i := 4) scSp.nd rfl (Or.inl rfl)) pgs_nil)))))
      (pss_cons (ps_set (i := 5) scSp.nd rfl (Or.inl rfl) (pe_tup (pa_cons (pe_op op_fdiv (pe_callB call_len_seq (by rfl) T.len PySem.boot_len (pa_cons (pv 4) pa_nil)) (pv 3))
        (pa_cons (pe_op op_mod (pe_callB call_len_seq (by rfl) T.len PySem.boot_len (pa_cons (pv 4) pa_nil)) (pv 3)) pa_nil))))
      (pss_cons (ps_expr (pe_bm PySem.F.plainAttrs_list PySem.F.slot_list_append PySem.F.type_list_append mt_append (pv 4) (pa_cons (pv 1) pa_nil)))
      (pss_one (ps_ret (pe_call GP hr (by rfl) mP kP bP .nil pass0 (pa_cons (pe_meth (pv 2) T.cl mS GS hr1 bS .nil pass0 (pa_cons (pv 1) pa_nil)) (pa_cons (pv 5) pa_nil))))))), ?_⟩
    have hh : (0 : Int) < (r.h : Int) := by omega
    have el : (ms.map V.int).length = ms.length := List.length_map _
    refine ⟨_, rfl, r.s, _, rfl, SqT.of hs, rfl, _, _, rfl, _, _, rfl, _, _, rfl, rfl, ?_⟩
    refine ⟨_, rfl, r.m, _, rfl, .inl (SqL.of hm), _, rfl, _, _, rfl, rfl, ⟨hh, by omega⟩, _, rfl, r.m, _, rfl, .inl (SqL.of hm), _, rfl, _, _, rfl, rfl, hh, (by show 2 ≤ sizeLine; decide), fun d hd => ?_⟩
    dsimp only
    rw [el, cast_div, cast_mod]
    generalize hH1 : upd H d (.tup [.int ((ms.length / r.h : Nat) : Int), .int ((ms.length % r.h : Nat) : Int)]) = H1
    have s1 : Same H H1 := by rw [← hH1]; exact same_new (Same.refl H) hd
    have hd1 : H1 d = some (.tup [.int ((ms.length / r.h : Nat) : Int), .int ((ms.length % r.h : Nat) : Int)]) := by rw [← hH1]; exact upd_same
    refine ⟨_, rfl, .inl ⟨rfl, _, SqL.of (s1 _ _ hm)⟩, _, rfl, r.m, _, _, rfl, rfl, s1 _ _ hm, by rw [el]; exact line1 (by omega), ?_⟩
    have nbm : r.b ≠ r.m := ne_of hb hm (by intro z; cases z)
    have nbl : r.b ≠ r.l := ne_of hb hl (by intro z; cases z)
    have ndm : d ≠ r.m := ne_of hd1 (s1 _ _ hm) (by intro z; cases z)
    have ndb : d ≠ r.b := ne_of hd1 (s1 _ _ hb) (by intro z; cases z)
    have ndl : d ≠ r.l := ne_of hd1 (s1 _ _ hl) (by intro z; cases z)
    generalize hH2 : upd H1 r.m (.lst (ms.map V.int ++ [.int z])) = H2
    have hb2 : H2 r.b = some (.ins C r.dx (pf r.h ((ms.length / r.h : Nat) : Int) ((ms.length % r.h : Nat) : Int) (lastOf ms) r.l)) := by rw [← hH2, upd_ne nbm]; exact s1 _ _ hb
    have hl2 : H2 r.l = some (.lst xs) := by rw [← hH2, upd_ne lm]; exact s1 _ _ hl
    have hm2 : H2 r.m = some (.lst ((ms ++ [z]).map V.int)) := by rw [← hH2, upd_same, List.map_append]; rfl
    have hd2 : H2 d = some (.tup [.int ((ms.length / r.h : Nat) : Int), .int ((ms.length % r.h : Nat) : Int)]) := by rw [← hH2, upd_ne ndm]; exact hd1
    have k2 : Keep [r.b, r.l, r.m] H H2 := by rw [← hH2]; exact (Keep.same s1).put (by simp)
    have xlen : xs.length ≤ 1000 := by rw [tx.length]; exact Nat.le_trans (torn_le _ _) hlen
    refine ⟨_, rfl, r.b, r.dx, _, rfl, hb2, pf_no (by decide +kernel) (by decide +kernel) (by decide +kernel) (by decide +kernel) (by decide +kernel), _, rfl,
      r.b, r.dx, r.l, _, _, _, _, z, xs, rfl, hb2, hl2, line1 (by omega), fun u H3 hu hu3 hb3 hl3 k3 => ?_⟩
    have nd3 : d ∉ [r.b, r.l] := by simp [ndb, ndl]
    have hd3 := k3 _ _ hd2 nd3
    refine ⟨_, rfl, u, d, _, _, rfl, hu3, hd3, fun H4 s4 => ?_⟩
    have nml : r.m ∉ [r.b, r.l] := by simp [nbm.symm, lm.symm]
    have k3' : Keep [r.b, r.l, r.m] H H3 := k2.trans (k3.mono (by simp +contextual))
    have k4 : Keep [r.b, r.l, r.m] H H4 := k3'.trans (Keep.same s4)
    have nt : ∀ b ys, H b = some (.tup ys) → b ∉ [r.b, r.l, r.m] := fun b ys e q => by
      rcases List.mem_cons.mp q with q | q
      · exact ne_of e hb (by intro z; cases z) q
      rcases List.mem_cons.mp q with q | q
      · exact ne_of e hl (by intro z; cases z) q
      rcases List.mem_cons.mp q with q | q
      · exact ne_of e hm (by intro z; cases z) q
      · cases q
    have tx4 : Tups H4 xs (torn ms r.h) := tx.imp fun b ys e => k4 _ _ e (nt _ _ e)
    refine k H4 ⟨k4 _ _ hs (nt _ _ hs), ?_, ?_, s4 _ _ (k3 _ _ hm2 nml), lm, h0, h64⟩ k4
    · have e : H4 r.b = _ := s4 _ _ hb3
      rw [e, lastOf_app, List.length_append, List.length_singleton]
      by_cases q : ms.length % r.h + 1 = r.h
      · have q' : ((ms.length % r.h : Nat) : Int) + 1 = (r.h : Int) := by omega
        obtain ⟨e1, e2⟩ := next_out h0 q
        rw [if_pos q', if_pos q', e1, e2]
        rfl
      · have q' : ¬ ((ms.length % r.h : Nat) : Int) + 1 = (r.h : Int) := by omega
        obtain ⟨e1, e2⟩ := next_in h0 q
        rw [if_neg q', if_neg q', e1, e2]
        rfl
    · refine ⟨_, s4 _ _ hl3, ?_⟩
      rw [torn_app]
      by_cases q : 0 < ms.length % r.h ∧ z ≠ lastOf ms
      · rw [if_pos q, if_pos ⟨by have := q.1; omega, q.2⟩]
        exact tx4.app (s4 _ _ hu3)
      · rw [if_neg q, if_neg (fun y => q ⟨by have := y.1; omega, y.2⟩)]
        exact tx4
theorem scSt : FnScope ["_law_state", "_law_told", "_law_beam", "_law_high", "_law_makes", "_law_rests", "_law_torn_here", "_law_one"] ["_law_state", "_law_told"] (defScope sStands) := ⟨rfl, rfl, rfl, by decide +kernel, rfl, by decide +kernel, by decide +kernel⟩
theorem mem_cut {xs : List V} {lo hi : Option Int} {v : V} (h : v ∈ cutV xs lo hi) : v ∈ xs := by
  unfold cutV at h
  exact List.mem_of_mem_drop (List.mem_of_mem_take h)
theorem ok_stands {f fP fT fA fR fO C : Addr} {fd fdP fdT fdA fdR fdO : FuncData} (F : Fun K "_law_stands" "_law_stands" sStands f fd) (T : Txt K mg C)
    (GP : FnOk P w K mg base CX0 2 fP fdP ["_law_found", "_law_due"] spPair) (mP : mg "_law_pair" = some (.ref fP)) (kP : PySem.W.keepIn K (.ref fP) = true) (bP : Binds K fdP ["_law_found", "_law_due"] [])
    (GT : FnOk P w K mg base CX0 1 fT fdT ["_law_makes", "_law_high"] spLTorn) (mT : mg "_law_torn" = some (.ref fT)) (kT : PySem.W.keepIn K (.ref fT) = true) (bT : Binds K fdT ["_law_makes", "_law_high"] [])
    (GA : FnOk P w K mg base CX0 1 fA fdA ["self"] (spAhead C)) (mA : Meth K C "ahead" fA) (bA : Binds K fdA ["self"] [])
    (GR : FnOk P w K mg base CX0 1 fR fdR ["self"] (spRests C)) (mR : Meth K C "rests" fR) (bR : Binds K fdR ["self"] [])
    (GO : FnOk P w K mg base CX0 1 fO fdO ["self"] (spTorn C)) (mO : Meth K C "torn" fO) (bO : Binds K fdO ["self"] []) :
    FnOk P w K mg base CX0 3 f fd ["_law_state", "_law_told"] (spStands C) := by
  refine F.ok scSt (fun vs H Q E h => ?_) (fun cdv A outer s H vs Q E hr h => ?_)
  · obtain ⟨r, T, ms, ts, rfl, _⟩ := h
    rfl
  · obtain ⟨r, L, ms, ts, rfl, x, hlen, hT, htl, nTl, nTm, k⟩ := h
    have hr1 : Room 1 _ := hr.mono (by decide)
    obtain ⟨hs, hb, ⟨xs, hl, tx⟩, hm, lm, h0, h64⟩ := id x
    refine ⟨_, pss_cons (ps_asg (pv 0) (pg_tup rfl (pgs_cons (pg_name (i := 2) scSt.nd rfl (Or.inl rfl)) (pgs_cons (pg_name (i := 3) scSt.nd rfl (Or.inl rfl)) (pgs_cons (pg_name (i := 4) scSt.nd rfl (Or.inl rfl)) pgs_nil)))))
      (pss_cons (ps_if (pt_not (pt_val (pe_call GP hr (by rfl) mP kP bP .nil pass0 (pa_cons (pe_meth0 (pv 2) T.cl mA GA hr1 bA .nil pass0)
          (pa_cons (pe_tup (pa_cons (pe_op op_fdiv (pe_callB call_len_seq (by rfl) T.len PySem.boot_len (pa_cons (pv 4) pa_nil)) (pv 3))
            (pa_cons (pe_op op_mod (pe_callB call_len_seq (by rfl) T.len PySem.boot_len (pa_cons (pv 4) pa_nil)) (pv 3)) pa_nil))) pa_nil)))))
        (pss_one (ps_ret pe_bl)) pss_nil)
      (pss_cons (ps_set (i := 5) scSt.nd rfl (Or.inl rfl) (pe_meth0 (pv 2) T.cl mR GR hr1 bR .nil pass0))
      (pss_cons (ps_if (PW.pt (pw_or (pt_not (pt_val (pe_callB call_isi (by rfl) T.isi (by decide +kernel) (pa_cons (pv 5) (pa_cons (pe_bltn (v := .ty "bool") (by rfl) T.bool (by decide +kernel) rfl) pa_nil)))))
          (pw_or1 (pt_cmpR op_ne (pv 5) (pe_cmpR op_eq (pe_op op_mod (pe_callB call_len_seq (by rfl) T.len PySem.boot_len (pa_cons (pv 4) pa_nil)) (pv 3)) pe_int (nomark _)) (nomark _)))))
        (pss_one (ps_ret pe_bl)) pss_nil)
      (pss_cons (ps_set (i := 6) scSt.nd rfl (Or.inl rfl) (pe_meth0 (pv 2) T.cl mO GO hr1 bO .nil pass0))
      (pss_cons (ps_if (PW.pt (pw_or (pt_not (pt_val (pe_callB call_isi (by rfl) T.isi (by decide +kernel) (pa_cons (pv 6) (pa_cons (pe_bltn (v := .ty "list") (by rfl) T.list (by decide +kernel) rfl) pa_nil)))))
          (pw_or1 (pt_cmpR (op_neD hr.units) (pv 6) (pe_call GT hr1 (by rfl) mT kT bT .nil pass0 (pa_cons (pv 4) (pa_cons (pv 3) pa_nil))) (nomark _)))))
        (pss_one (ps_ret pe_bl)) pss_nil)
      (pss_cons (ps_expr (pe_bm PySem.F.plainAttrs_list PySem.F.slot_list_append PySem.F.type_list_append mt_append (pv 1)
        (pa_cons (pe_tup (pa_cons (pv 6) (pa_cons (pe_callTy call_list_of (by rfl) T.list (by decide +kernel) (pa_cons (pv 6) pa_nil)) pa_nil))) pa_nil)))
      (pss_one (ps_ret (pe_callB (cr_all rfl) (by rfl) T.all (by decide +kernel) (pa_cons
        (pe_lc (own := [("_law_one", 7)]) (g := gName 7) (tt := tYes) rfl scSt.nd (pi_list (pe_slice sl_list (pv 6) (po_some (pe_un un_neg pe_int)) po_none))
          (blkOk_by (own := [("_law_one", 7)]) (N := ["_law_state", "_law_told", "_law_beam", "_law_high", "_law_makes", "_law_rests", "_law_torn_here", "_law_one"]) (sc := defScope sStands) (by decide +kernel))
          (fun _ _ _ _ _ => pg_name (i := 7) scSt.nd rfl (Or.inl rfl)) (fun _ _ _ _ _ => pts_nil)
          (fun _ _ _ _ _ => pe_call GP hr (by rfl) mP kP bP .nil pass0 (pa_cons (pv 7) (pa_cons (pv 7) pa_nil)))) pa_nil)))))))))), ?_⟩
    have hh : (0 : Int) < (r.h : Int) := by omega
    have el : (ms.map V.int).length = ms.length := List.length_map _
    have noM : ∀ {f : Str}, (f == "rows") = false → (f == "turn") = false → (f == "row_next") = false → (f == "last_make") = false → (f == "torn_rows") = false →
        (pf r.h ((ms.length / r.h : Nat) : Int) ((ms.length % r.h : Nat) : Int) (lastOf ms) r.l).lookup f = none := fun h1 h2 h3 h4 h5 => pf_no h1 h2 h3 h4 h5
    refine ⟨_, rfl, r.s, _, rfl, SqT.of hs, rfl, _, _, rfl, _, _, rfl, _, _, rfl, rfl, ?_⟩
    -- the first look: ahead
    refine ⟨_, rfl, r.b, r.dx, _, rfl, hb, noM (by decide +kernel) (by decide +kernel) (by decide +kernel) (by decide +kernel) (by decide +kernel), r.b, r.dx, r.l, _, _, _, _, rfl, hb, fun u1 hu1 => ?_⟩
    generalize hH1 : upd H u1 (.tup [.int ((ms.length / r.h : Nat) : Int), .int ((ms.length % r.h : Nat) : Int)]) = H1
    have s1 : Same H H1 := by rw [← hH1]; exact same_new (Same.refl H) hu1
    have hu1' : H1 u1 = some (.tup [.int ((ms.length / r.h : Nat) : Int), .int ((ms.length % r.h : Nat) : Int)]) := by rw [← hH1]; exact upd_same
    refine ⟨_, rfl, r.m, _, rfl, .inl (SqL.of (s1 _ _ hm)), _, rfl, _, _, rfl, rfl, ⟨hh, by omega⟩, _, rfl, r.m, _, rfl, .inl (SqL.of (s1 _ _ hm)), _, rfl, _, _, rfl, rfl, hh, (by show 2 ≤ sizeLine; decide), fun u2 hu2 => ?_⟩
    dsimp only
    rw [el, cast_div, cast_mod]
    refine ⟨u1, u2, _, _, rfl, Eq.trans (upd_ne (ne_of_none hu1' hu2)) hu1', upd_same, fun H3 s3 => ?_⟩
    have s3' : Same H H3 := (same_new s1 hu2).trans s3
    refine ⟨true, rfl, iteF ?_⟩
    -- the second look: rests
    have hb3 := s3' _ _ hb
    have hm3 := s3' _ _ hm
    refine ⟨_, rfl, r.b, r.dx, _, rfl, hb3, noM (by decide +kernel) (by decide +kernel) (by decide +kernel) (by decide +kernel) (by decide +kernel), r.b, r.dx, r.l, _, _, _, _, rfl, hb3, ?_⟩
    refine ⟨_, rfl, _, _, _, _, true, rfl, .ty _, .base (.bl _), kit_ty (by decide +kernel), _, rfl, iteF ?_⟩
    refine ⟨_, rfl, _, rfl, r.m, _, rfl, .inl (SqL.of hm3), _, rfl, _, _, rfl, rfl, hh, rfl, rfl, _, rfl, ?_⟩
    have er : decide (V.int ((((ms.map V.int).length : Nat) : Int) % (r.h : Int)) = V.int 0) = decide (((ms.length % r.h : Nat) : Int) = 0) := by
      rw [el, cast_mod]
      simp
    dsimp only
    rw [er]
    refine ite2 (fun c => absurd c (by simp)) (fun _ => ?_)
    -- the third look: torn
    refine ⟨_, rfl, r.b, r.dx, _, rfl, hb3, noM (by decide +kernel) (by decide +kernel) (by decide +kernel) (by decide +kernel) (by decide +kernel), r.b, r.dx, r.l, _, _, _, _, xs, rfl, hb3, s3' _ _ hl, fun q hq => ?_⟩
    generalize hH4 : upd H3 q (.lst xs) = H4
    have s4 : Same H H4 := by rw [← hH4]; exact same_new s3' hq
    have hq4 : H4 q = some (.lst xs) := by rw [← hH4]; exact upd_same
    refine ⟨_, rfl, _, _, _, _, true, rfl, .ty _, .base (.lst hq4), kit_ty (by decide +kernel), _, rfl, iteF ?_⟩
    refine ⟨_, rfl, _, rfl, _, rfl, r.m, r.h, ms, rfl, s4 _ _ hm, h0, h64, hlen, fun p ys H5 s5 hp hp5 ty => ?_⟩
    have s5' : Same H H5 := s4.trans s5
    have hq5 := s5 _ _ hq4
    have tx5 : Tups H5 xs (torn ms r.h) := tx.same s5'
    refine ⟨_, _, Tups.dpL hq5 tx5, Tups.dpL hp5 ty, pDs_shaped _, pDs_shaped _, _, rfl, ?_⟩
    rw [shaped_refl (pDs_shaped _)]
    refine iteF ?_
    -- told.append((torn_here, list(torn_here)))
    refine ⟨_, rfl, .inl ⟨rfl, _, SqL.of (s5' _ _ hT)⟩, _, rfl, _, rfl, q, _, rfl, .inl (SqL.of hq5), fun q2 hq2 => ?_⟩
    refine ⟨(by show 2 ≤ sizeLine; decide), fun u hu => ?_⟩
    generalize hH6 : upd H5 q2 (.lst xs) = H6 at hu ⊢
    have s6 : Same H H6 := by rw [← hH6]; exact same_new s5' hq2
    have s56 : Same H5 H6 := by rw [← hH6]; exact same_new (Same.refl H5) hq2
    have hq26 : H6 q2 = some (.lst xs) := by rw [← hH6]; exact upd_same
    generalize hH7 : upd H6 u (.tup [.ref q, .ref q2]) = H7
    have s7 : Same H H7 := by rw [← hH7]; exact same_new s6 hu
    have s67 : Same H6 H7 := by rw [← hH7]; exact same_new (Same.refl H6) hu
    have hu7 : H7 u = some (.tup [.ref q, .ref q2]) := by rw [← hH7]; exact upd_same
    refine ⟨L, _, _, rfl, rfl, s7 _ _ hT, line1 (by omega), ?_⟩
    generalize hH8 : upd H7 L (.lst (ts ++ [.ref u])) = H8
    have k8 : Keep [L] H H8 := by rw [← hH8]; exact (Keep.same s7).put (by simp)
    have k78 : Keep [L] H7 H8 := by rw [← hH8]; exact (Keep.refl [L] H7).put (by simp)
    have hT8 : H8 L = some (.lst (ts ++ [.ref u])) := by rw [← hH8]; exact upd_same
    have hq0 : H q = none := s3'.free hq
    have hq20 : H q2 = none := s5'.free hq2
    have hu0 : H u = none := s6.free hu
    have nL : ∀ b, H b = none → b ∉ [L] := fun b e z => by
      rw [List.mem_singleton] at z
      rw [z, hT] at e
      cases e
    have nt : ∀ b ys, H7 b = some (.tup ys) → b ∉ [L] := fun b ys e z => by
      rw [List.mem_singleton] at z
      rw [z, s7 _ _ hT] at e
      cases e
    have hq8 : H8 q = some (.lst xs) := k78 _ _ (s67 _ _ (s56 _ _ hq5)) (nL _ hq0)
    have hq28 : H8 q2 = some (.lst xs) := k78 _ _ (s67 _ _ hq26) (nL _ hq20)
    have hu8 : H8 u = some (.tup [.ref q, .ref q2]) := k78 _ _ hu7 (nL _ hu0)
    have tx8 : Tups H8 xs (torn ms r.h) := (tx.same s7).imp fun b ys e => k78 _ _ e (nt _ _ e)
    -- all([pair(one, one) for one in torn_here[-1:]])
    refine ⟨_, rfl, _, rfl, _, rfl, q, _, rfl, SqL.of hq8, fun g hg => ?_⟩
    generalize hcs : cutV xs (some (-1)) none = cs
    have hmem : ∀ v ∈ cs, v ∈ xs := fun v hv => mem_cut (by rw [hcs]; exact hv)
    have hcl : cs.length ≤ 1000 := by
      have e1 := cutV_length xs (some (-1)) none
      rw [hcs, tx.length] at e1
      exact Nat.le_trans e1 (Nat.le_trans (torn_le _ _) hlen)
    generalize hH9 : upd H8 g (.lst cs) = H9
    have s89 : Same H8 H9 := by rw [← hH9]; exact same_new (Same.refl H8) hg
    have hg9 : H9 g = some (.lst cs) := by rw [← hH9]; exact upd_same
    refine ⟨g, rfl, ⟨_, SqL.of hg9⟩, fun D hD => lc_list (K := K) (a := g) (xs := cs) (fun n H' => Same H9 H' ∧ H' D = some (.lst ((List.replicate n true).map V.bl)) ∧ n ≤ 1000) ?_ ?_ ?_ ?_⟩
    · exact ⟨same_new (Same.refl H9) hD, upd_same, by decide⟩
    · exact fun n H' _ ⟨e1, _, _⟩ => SqL.of (e1 _ _ hg9)
    · rintro n y H' hy ⟨e1, h1, h2⟩
      have hn : n < cs.length := (List.getElem?_eq_some_iff.mp hy).1
      obtain ⟨a, i, j, rfl, ha⟩ := tx8.get (hmem y (List.mem_of_getElem? hy))
      have ha' := e1 _ _ (s89 _ _ ha)
      refine ⟨rfl, ?_⟩
      refine ⟨_, rfl, _, rfl, a, a, i, j, rfl, ha', ha', fun H'' e2 => ?_⟩
      refine ⟨_, e2 _ _ h1, by rw [List.length_map, List.length_replicate]; exact line1 (by omega), ?_, by rw [upd_same, rep_app], by omega⟩
      intro c o e
      rw [upd_ne (ne_of_none e hD)]
      exact e2 _ _ (e1 _ _ e)
    · rintro H' ⟨e1, h1, _⟩
      refine ⟨D, _, rfl, SqL.of h1, ?_⟩
      rw [all_true]
      have e2 : Same H8 H' := s89.trans e1
      exact k u q q2 xs H' hu0 hq0 hq20 (e2 _ _ hT8) (e2 _ _ hu8) (e2 _ _ hq8) (e2 _ _ hq28) (tx8.same e2) (k8.trans (Keep.same e2))
end
end Bm

/-! The law's heap: two states, a list of what was told. -/
namespace Bm
open PySem L2
theorem same_put {H H' : Hp} {u : Addr} {o : HO} (k : Same H H') (n : H u = none) : Same H (upd H' u o) := fun c q e => by
  rw [upd_ne (ne_of_none e n)]
  exact k c q e
/-- what may change -/
def muts (r r' : Rec) (T : Addr) : List Addr := [r.b, r.l, r.m, r'.b, r'.l, r'.m, T]
/-- two states that stand apart, the list of what was told -/
structure Core (C : Addr) (H : Hp) (r r' : Rec) (ms ms' : List Int) (T : Addr) (ts : List V) : Prop where
  x : StAt C H r ms
  x' : StAt C H r' ms'
  bb : r.b ≠ r'.b
  l1 : r.l ≠ r'.l
  l2 : r.l ≠ r'.m
  l3 : r.m ≠ r'.l
  l4 : r.m ≠ r'.m
  t1 : T ≠ r.l
  t2 : T ≠ r.m
  t3 : T ≠ r'.l
  t4 : T ≠ r'.m
  hT : H T = some (.lst ts)
section
variable {C : Addr} {H H' : Hp} {r r' : Rec} {ms ms' : List Int} {T : Addr} {ts : List V}
theorem Core.swap (c : Core C H r r' ms ms' T ts) : Core C H r' r ms' ms T ts :=
  ⟨c.x', c.x, c.bb.symm, c.l1.symm, c.l3.symm, c.l2.symm, c.l4.symm, c.t3, c.t4, c.t1, c.t2, c.hT⟩
theorem muts_swap {a : Addr} (h : a ∈ muts r r' T) : a ∈ muts r' r T := by
  simp only [muts, List.mem_cons, List.not_mem_nil, or_false] at h ⊢
  rcases h with h | h | h | h | h | h | h <;> simp [h]
/-- what may change is there, and no tuple -/
theorem Core.there (c : Core C H r r' ms ms' T ts) {a : Addr} (h : a ∈ muts r r' T) : ∃ o, H a = some o ∧ ∀ ys, o ≠ .tup ys := by
  obtain ⟨xs, hl, _⟩ := c.x.hl
  obtain ⟨xs', hl', _⟩ := c.x'.hl
  simp only [muts, List.mem_cons, List.not_mem_nil, or_false] at h
  rcases h with rfl | rfl | rfl | rfl | rfl | rfl | rfl
  · exact ⟨_, c.x.hb, fun _ z => by cases z⟩
  · exact ⟨_, hl, fun _ z => by cases z⟩
  · exact ⟨_, c.x.hm, fun _ z => by cases z⟩
  · exact ⟨_, c.x'.hb, fun _ z => by cases z⟩
  · exact ⟨_, hl', fun _ z => by cases z⟩
  · exact ⟨_, c.x'.hm, fun _ z => by cases z⟩
  · exact ⟨_, c.hT, fun _ z => by cases z⟩
theorem Core.nt (c : Core C H r r' ms ms' T ts) {b : Addr} {ys : List V} (e : H b = some (.tup ys)) : b ∉ muts r r' T := fun h => by
  obtain ⟨o, e', n⟩ := c.there h
  rw [e] at e'
  exact n ys (Option.some.inj e').symm
/-- a new address is none of these -/
theorem Core.fresh (c : Core C H r r' ms ms' T ts) {b : Addr} (e : H b = none) : b ∉ muts r r' T := fun h => by
  obtain ⟨o, e', n⟩ := c.there h
  rw [e] at e'
  cases e'
/-- strangers change -/
theorem Core.keep (c : Core C H r r' ms ms' T ts) {S : List Addr} (k : Keep S H H') (f : ∀ a ∈ S, a ∉ muts r r' T) (nt : ∀ b ys, H b = some (.tup ys) → b ∉ S) : Core C H' r r' ms ms' T ts := by
  have g : ∀ a ∈ muts r r' T, a ∉ S := fun a h z => f a z h
  refine ⟨c.x.keep k (g _ (by simp [muts])) (g _ (by simp [muts])) (g _ (by simp [muts])) nt, c.x'.keep k (g _ (by simp [muts])) (g _ (by simp [muts])) (g _ (by simp [muts])) nt,
    c.bb, c.l1, c.l2, c.l3, c.l4, c.t1, c.t2, c.t3, c.t4, k _ _ c.hT (g _ (by simp [muts]))⟩
theorem Core.same (c : Core C H r r' ms ms' T ts) (k : Same H H') : Core C H' r r' ms ms' T ts := c.keep (Keep.same (S := []) k) (fun _ h => by cases h) (fun _ _ _ h => by cases h)
/-- the one state is stepped -/
theorem Core.stepped (c : Core C H r r' ms ms' T ts) {ms2 : List Int} (x : StAt C H' r ms2) (k : Keep [r.b, r.l, r.m] H H') : Core C H' r r' ms2 ms' T ts := by
  obtain ⟨xs, hl, _⟩ := c.x.hl
  obtain ⟨xs', hl', _⟩ := c.x'.hl
  have nb : r'.b ≠ r.l := ne_of c.x'.hb hl (by intro z; cases z)
  have nb2 : r'.b ≠ r.m := ne_of c.x'.hb c.x.hm (by intro z; cases z)
  have nl : r'.l ≠ r.b := ne_of hl' c.x.hb (by intro z; cases z)
  have nm : r'.m ≠ r.b := ne_of c.x'.hm c.x.hb (by intro z; cases z)
  have nT : T ≠ r.b := ne_of c.hT c.x.hb (by intro z; cases z)
  refine ⟨x, c.x'.keep k (by simp [c.bb.symm, nb, nb2]) (by simp [nl, c.l1.symm, c.l3.symm]) (by simp [nm, c.l2.symm, c.l4.symm]) (fun b ys e h => c.nt e ?_),
    c.bb, c.l1, c.l2, c.l3, c.l4, c.t1, c.t2, c.t3, c.t4, k _ _ c.hT (by simp [nT, c.t1, c.t2])⟩
  simp only [List.mem_cons, List.not_mem_nil, or_false] at h
  rcases h with h | h | h <;> simp [muts, h]
/-- something was told -/
theorem Core.stood (c : Core C H r r' ms ms' T ts) {ts2 : List V} (k : Keep [T] H H') (h : H' T = some (.lst ts2)) : Core C H' r r' ms ms' T ts2 := by
  have nt : ∀ b ys, H b = some (.tup ys) → b ∉ [T] := fun b ys e z => c.nt e (by rw [List.mem_singleton] at z; simp [muts, z])
  have n : ∀ {a : Addr}, T ≠ a → a ∉ [T] := fun h z => h (List.mem_singleton.mp z).symm
  have nT : T ≠ r.b := ne_of c.hT c.x.hb (by intro z; cases z)
  have nT' : T ≠ r'.b := ne_of c.hT c.x'.hb (by intro z; cases z)
  exact ⟨c.x.keep k (n nT) (n c.t1) (n c.t2) nt, c.x'.keep k (n nT') (n c.t3) (n c.t4) nt, c.bb, c.l1, c.l2, c.l3, c.l4, c.t1, c.t2, c.t3, c.t4, h⟩
end
/-- what was told: tuples of two lists alike, none of them in P -/
def Told (H : Hp) (P : List Addr) (ts : List V) : Prop := ∀ v ∈ ts, ∃ (u q q2 : Addr) (ys : List V) (ps : List (Int × Int)), v = .ref u ∧ H u = some (.tup [.ref q, .ref q2]) ∧ H q = some (.lst ys) ∧ H q2 = some (.lst ys) ∧
  Tups H ys ps ∧ ys.length ≤ 1000 ∧ q ∉ P ∧ q2 ∉ P
theorem Told.mono {H : Hp} {P P' : List Addr} {ts : List V} (t : Told H P ts) (h : ∀ a ∈ P', a ∈ P) : Told H P' ts := fun v hv => by
  obtain ⟨u, q, q2, ys, ps, e, h1, h2, h3, h4, h5, h6, h7⟩ := t v hv
  exact ⟨u, q, q2, ys, ps, e, h1, h2, h3, h4, h5, fun z => h6 (h _ z), fun z => h7 (h _ z)⟩
theorem Told.keep {H H' : Hp} {P S : List Addr} {ts : List V} (t : Told H P ts) (k : Keep S H H') (h : ∀ a ∈ S, a ∈ P) (nt : ∀ b ys, H b = some (.tup ys) → b ∉ S) : Told H' P ts := fun v hv => by
  obtain ⟨u, q, q2, ys, ps, e, h1, h2, h3, h4, h5, h6, h7⟩ := t v hv
  exact ⟨u, q, q2, ys, ps, e, k _ _ h1 (nt _ _ h1), k _ _ h2 (fun z => h6 (h _ z)), k _ _ h3 (fun z => h7 (h _ z)), h4.imp fun b zs e => k _ _ e (nt _ _ e), h5, h6, h7⟩
theorem Told.same {H H' : Hp} {P : List Addr} {ts : List V} (t : Told H P ts) (k : Same H H') : Told H' P ts := t.keep (Keep.same (S := []) k) (fun _ h => by cases h) (fun _ _ _ h => by cases h)
theorem Told.app {H : Hp} {P : List Addr} {ts : List V} (t : Told H P ts) {u q q2 : Addr} {ys : List V} {ps : List (Int × Int)} (h1 : H u = some (.tup [.ref q, .ref q2])) (h2 : H q = some (.lst ys)) (h3 : H q2 = some (.lst ys)) (h4 : Tups H ys ps)
    (h5 : ys.length ≤ 1000) (h6 : q ∉ P) (h7 : q2 ∉ P) : Told H P (ts ++ [.ref u]) := fun v hv => by
  rcases List.mem_append.mp hv with hv | hv
  · exact t v hv
  · exact ⟨u, q, q2, ys, ps, List.mem_singleton.mp hv, h1, h2, h3, h4, h5, h6, h7⟩
theorem Told.nil {H : Hp} {P : List Addr} : Told H P [] := fun v hv => by cases hv
/-- behind the look: what stands in P is there -/
theorem told_stood {C : Addr} {H H' : Hp} {r r' : Rec} {ms ms' : List Int} {T : Addr} {ts : List V} {P : List Addr} (c : Core C H r r' ms ms' T ts) (t : Told H P ts) (hP : ∀ a ∈ P, ∃ o, H a = some o) (hT : T ∈ P) {u q q2 : Addr} {ys : List V}
    {ps : List (Int × Int)} (hq : H q = none) (hq2 : H q2 = none) (h1 : H' u = some (.tup [.ref q, .ref q2])) (h2 : H' q = some (.lst ys)) (h3 : H' q2 = some (.lst ys)) (h4 : Tups H' ys ps) (h5 : ys.length ≤ 1000) (k : Keep [T] H H') : Told H' P (ts ++ [.ref u]) := by
  have nP : ∀ {b : Addr}, H b = none → b ∉ P := fun e z => by
    obtain ⟨o, e'⟩ := hP _ z
    rw [e] at e'
    cases e'
  refine (t.keep k (fun a h => by rw [List.mem_singleton] at h; rw [h]; exact hT) (fun b ys e z => c.nt e (by rw [List.mem_singleton] at z; simp [muts, z]))).app h1 h2 h3 h4 h5 (nP hq) (nP hq2)
/-- .. while their lists grow -/
def Grown (H : Hp) (P : List Addr) (n : Nat) (ts : List V) : Prop := ∀ v ∈ ts, ∃ (u q q2 : Addr) (ys : List V), v = .ref u ∧ H u = some (.tup [.ref q, .ref q2]) ∧ H q = some (.lst ys) ∧ ys.length ≤ n ∧ q ∉ P
theorem Told.grown {H : Hp} {P : List Addr} {ts : List V} (t : Told H P ts) : Grown H P 1000 ts := fun v hv => by
  obtain ⟨u, q, q2, ys, ps, e, h1, h2, h3, h4, h5, h6, h7⟩ := t v hv
  exact ⟨u, q, q2, ys, e, h1, h2, h5, h6⟩
theorem Grown.put {H : Hp} {P : List Addr} {n : Nat} {ts : List V} (t : Grown H P n ts) {q : Addr} {ys : List V} {v : V} (h : H q = some (.lst ys)) (hl : ys.length ≤ n) : Grown (upd H q (.lst (ys ++ [v]))) P (n + 1) ts := fun y hy => by
  obtain ⟨u, p, p2, zs, e, h1, h2, h3, h4⟩ := t y hy
  have nu : u ≠ q := ne_of h1 h (by intro z; cases z)
  by_cases hp : p = q
  · exact ⟨u, p, p2, ys ++ [v], e, by rw [upd_ne nu]; exact h1, by rw [hp, upd_same], by rw [List.length_append, List.length_singleton]; omega, h4⟩
  · exact ⟨u, p, p2, zs, e, by rw [upd_ne nu]; exact h1, by rw [upd_ne hp]; exact h2, by omega, h4⟩
end Bm

/-! The law. -/
namespace Bm
open PySem L2
def spLaw (K : PySem.W.Frag) : Sp := fun vs H Q _ => ∃ (a : Addr) (ns : List Int), vs = [.ref a] ∧ SqL K H a (ns.map V.int) ∧ ns.length ≤ 63 ∧ ∀ H', Q (.bl true) H'
theorem same_keep {H H1 H2 : Hp} {S : List Addr} (s : Same H H1) (k : Keep S H1 H2) (n : ∀ x ∈ S, H x = none) : Same H H2 := fun c o e => k c o (s c o e) fun z => by
  rw [n c z] at e
  cases e
/-- a state as it is made -/
theorem made {C : Addr} {H1 H2 : Hp} {x dx l m t : Addr} {h : Nat} (h0 : 0 < h) (h64 : h ≤ 64) (hx : H1 x = some (.ins C dx (pf h 0 0 0 l))) (hl : H1 l = some (.lst [])) (hm : H1 m = none) (e2 : H2 = upd H1 m (.lst [])) (ht : H2 t = none) :
    StAt C (upd H2 t (.tup [.ref x, .int h, .ref m])) ⟨t, x, dx, l, m, h⟩ [] := by
  subst e2
  have nlm : l ≠ m := ne_of_none hl hm
  have hx2 : upd H1 m (.lst []) x = some (.ins C dx (pf h 0 0 0 l)) := by rw [upd_ne (ne_of_none hx hm)]; exact hx
  have hl2 : upd H1 m (.lst []) l = some (.lst []) := by rw [upd_ne nlm]; exact hl
  have hm2 : upd H1 m (.lst []) m = some (.lst []) := upd_same
  refine ⟨upd_same, ?_, ⟨[], ?_, .nil⟩, ?_, nlm, h0, h64⟩
  · show upd _ t _ x = _
    rw [upd_ne (ne_of_none hx2 ht), hx2]
    have e : (([] : List Int).length / h : Nat) = 0 := Nat.zero_div _
    have e' : (([] : List Int).length % h : Nat) = 0 := Nat.zero_mod _
    show some (HO.ins C dx (pf h 0 0 0 l)) = some (HO.ins C dx (pf h ((([] : List Int).length / h : Nat) : Int) ((([] : List Int).length % h : Nat) : Int) (lastOf []) l))
    rw [e, e']
    rfl
  · show upd _ t _ l = _
    rw [upd_ne (ne_of_none hl2 ht), hl2]
  · show upd _ t _ m = _
    rw [upd_ne (ne_of_none hm2 ht), hm2]
    rfl
section
variable {P : Program} {w : World} {K : PySem.W.Frag} {mg : Str → Option Value} {base : Heap}
theorem scL : FnScope ["_law_script", "_law_highs", "_law_states", "_law_told", "_law_state", "_law_k", "_law_cell", "_law_one", "_law_beside", "_law_high"] ["_law_script"] (defScope sLaw) := ⟨rfl, rfl, rfl, by decide +kernel, rfl, by decide +kernel, by decide +kernel⟩
theorem ok_law {f fD fSt fSp fM fC fI C : Addr} {fd fdD fdSt fdSp fdM fdC fdI : FuncData} (F : Fun K "law" "law" sLaw f fd) (T : Txt K mg C)
    (GD : FnOk P w K mg base CX0 1 fD fdD ["_law_script", "_law_k", "_law_prime", "_law_many"] (spDraw K)) (mD : mg "_law_draw" = some (.ref fD)) (kD : PySem.W.keepIn K (.ref fD) = true) (bD : Binds K fdD ["_law_script", "_law_k", "_law_prime", "_law_many"] [])
    (GSt : FnOk P w K mg base CX0 3 fSt fdSt ["_law_state", "_law_told"] (spStands C)) (mSt : mg "_law_stands" = some (.ref fSt)) (kSt : PySem.W.keepIn K (.ref fSt) = true) (bSt : Binds K fdSt ["_law_state", "_law_told"] [])
    (GSp : FnOk P w K mg base CX0 3 fSp fdSp ["_law_state", "_law_make_here"] (spStepped C)) (mSp : mg "_law_stepped" = some (.ref fSp)) (kSp : PySem.W.keepIn K (.ref fSp) = true) (bSp : Binds K fdSp ["_law_state", "_law_make_here"] [])
    (GM : FnOk P w K mg base CX0 1 fM fdM ["_law_cell", "_law_makes"] spMake) (mM : mg "_law_make" = some (.ref fM)) (kM : PySem.W.keepIn K (.ref fM) = true) (bM : Binds K fdM ["_law_cell", "_law_makes"] [])
    (GC : FnOk P w K mg base CX0 2 fC fdC ["_law_script"] (spCells K)) (mC : mg "_law_cells" = some (.ref fC)) (kC : PySem.W.keepIn K (.ref fC) = true) (bC : Binds K fdC ["_law_script"] [])
    (MI : Mk K C fI) (GI : FnOk P w K mg base CX0 1 fI fdI ["self", "high"] (spInit C)) (bI : Binds K fdI ["self", "high"] []) :
    FnOk P w K mg base CX0 4 f fd ["_law_script"] (spLaw K) := by
  refine F.ok scL (fun vs H Q E h => ?_) (fun cdv A outer s H vs Q E hr h => ?_)
  · obtain ⟨a, ns, rfl, _⟩ := h
    rfl
  · obtain ⟨a, ns, rfl, hA, hlen, k⟩ := h
    have hr1 : Room 1 _ := hr.mono (by decide)
    have hr2 : Room 2 _ := hr.mono (by decide)
    refine ⟨_, pss_cons (ps_set (i := 1) scL.nd rfl (Or.inl rfl) (pe_lst
        (pa_cons (pe_op op_add pe_int (pe_call GD hr1 (by rfl) mD kD bD .nil pass0 (pa_cons (pv 0) (pa_cons pe_int (pa_cons pe_int (pa_cons pe_int pa_nil))))))
        (pa_cons (pe_op op_add pe_int (pe_call GD hr1 (by rfl) mD kD bD .nil pass0 (pa_cons (pv 0) (pa_cons pe_int (pa_cons pe_int (pa_cons pe_int pa_nil)))))) pa_nil))))
      (C8.pss_cut (ps_if (pt_cmpR op_eq (pe_call GD hr1 (by rfl) mD kD bD .nil pass0 (pa_cons (pv 0) (pa_cons pe_int (pa_cons pe_int (pa_cons pe_int pa_nil))))) pe_int (nomark _))
        (pss_one (ps_asg pe_int (pg_sub (pv 1) pe_int set_list))) pss_nil)
      (C8.pss_cut (ps_setLc (i := 2) (own := [("_law_high", 9)]) (g := gName 9) (tt := tYes) rfl scL.nd rfl rfl (sw_true rfl rfl rfl (by decide +kernel)) (pi_list (pv 1))
        (blkOk_by (own := [("_law_high", 9)]) (N := ["_law_script", "_law_highs", "_law_states", "_law_told", "_law_state", "_law_k", "_law_cell", "_law_one", "_law_beside", "_law_high"]) (sc := defScope sLaw) (by decide +kernel))
        (fun _ _ _ _ _ => pg_name (i := 9) scL.nd rfl (Or.inl rfl)) (fun _ _ _ _ _ => pts_nil)
        (fun _ _ _ _ _ => pe_tup (pa_cons (pe_make MI GI hr2 (by rfl) T.mgC bI .nil pass0 (pa_cons (pv 9) pa_nil)) (pa_cons (pv 9) (pa_cons (pe_lst pa_nil) pa_nil)))))
      (pss_cons (ps_set (i := 3) scL.nd rfl (Or.inr rfl) (pe_lst pa_nil))
      (C8.pss_cut (ps_if (pt_not (pt_val (pe_callB (cr_all rfl) (by rfl) T.all (by decide +kernel) (pa_cons
          (pe_lc (own := [("_law_state", 4)]) (g := gName 4) (tt := tYes) rfl scL.nd (pi_list (pv 2))
            (blkOk_by (own := [("_law_state", 4)]) (N := ["_law_script", "_law_highs", "_law_states", "_law_told", "_law_state", "_law_k", "_law_cell", "_law_one", "_law_beside", "_law_high"]) (sc := defScope sLaw) (by decide +kernel))
            (fun _ _ _ _ _ => pg_name (i := 4) scL.nd rfl (Or.inl rfl)) (fun _ _ _ _ _ => pts_nil)
            (fun _ _ _ _ _ => pe_call GSt hr (by rfl) mSt kSt bSt .nil pass0 (pa_cons (pv 4) (pa_cons (pv 3) pa_nil)))) pa_nil)))) (pss_one (ps_ret pe_bl)) pss_nil)
      (C8.pss_cut (ps_if (pt_cmpR op_eq (pe_call GD hr1 (by rfl) mD kD bD .nil pass0 (pa_cons (pv 0) (pa_cons pe_int (pa_cons pe_int (pa_cons pe_int pa_nil))))) pe_int (nomark _))
        (pss_one (ps_for PassesOwn.never rfl (pi_range1 (by rfl) T.range (pa_cons pe_int pa_nil)) (pg_name (i := 5) scL.nd rfl (Or.inl rfl))
          (pss_one (ps_if (pt_not (pt_val (pe_call GSp hr (by rfl) mSp kSp bSp .nil pass0 (pa_cons (pe_ix ix_list (pv 2) pe_int (fun _ _ => rfl)) (pa_cons (pe_op op_fdiv (pv 5) pe_int) pa_nil))))) (pss_one (ps_ret pe_bl)) pss_nil)))) pss_nil)
      (C8.pss_cut (ps_for PassesOwn.never rfl (pi_list (pe_call GC hr2 (by rfl) mC kC bC .nil pass0 (pa_cons (pv 0) pa_nil))) (pg_name (i := 6) scL.nd rfl (Or.inl rfl))
        (pss_cons (ps_set (i := 4) scL.nd rfl (Or.inl rfl) (pe_ix ix_list (pv 2) (pe_op op_mod (pv 6) pe_int) (fun _ _ => rfl)))
        (pss_cons (ps_if (pt_not (pt_val (pe_call GSp hr (by rfl) mSp kSp bSp .nil pass0 (pa_cons (pv 4) (pa_cons (pe_call GM hr1 (by rfl) mM kM bM .nil pass0 (pa_cons (pv 6) (pa_cons (pe_ix ix_tup (pv 4) pe_int (fun _ _ => rfl)) pa_nil))) pa_nil)))))
          (pss_one (ps_ret pe_bl)) pss_nil)
        (pss_one (ps_if (PW.pt (pw_or (pt_not (pt_val (pe_call GSt hr (by rfl) mSt kSt bSt .nil pass0 (pa_cons (pv 4) (pa_cons (pv 3) pa_nil)))))
            (pw_or1 (pt_not (pt_val (pe_call GSt hr (by rfl) mSt kSt bSt .nil pass0 (pa_cons (pe_ix ix_list (pv 2) (pe_op op_sub pe_int (pe_op op_mod (pv 6) pe_int)) (fun _ _ => rfl)) (pa_cons (pv 3) pa_nil))))))))
          (pss_one (ps_ret pe_bl)) pss_nil)))))
      (C8.pss_cut (ps_if (pt_not (pt_val (pe_callB (cr_all rfl) (by rfl) T.all (by decide +kernel) (pa_cons
          (pe_lc (own := [("_law_one", 7), ("_law_beside", 8)]) (g := gTup K 2 (gCons (gName 7) (gCons (gName 8) gNil))) (tt := tYes) rfl scL.nd (pi_list (pv 3))
            (blkOk_by (own := [("_law_one", 7), ("_law_beside", 8)]) (N := ["_law_script", "_law_highs", "_law_states", "_law_told", "_law_state", "_law_k", "_law_cell", "_law_one", "_law_beside", "_law_high"]) (sc := defScope sLaw) (by decide +kernel))
            (fun _ _ _ _ _ => pg_tup rfl (pgs_cons (pg_name (i := 7) scL.nd rfl (Or.inl rfl)) (pgs_cons (pg_name (i := 8) scL.nd rfl (Or.inl rfl)) pgs_nil))) (fun _ _ _ _ _ => pts_nil)
            (fun _ _ _ _ _ => pe_cmpR (r := rEqD K) (op_eqD hr.units) (pv 7) (pv 8) (nomark _))) pa_nil)))) (pss_one (ps_ret pe_bl)) pss_nil)
      (C8.pss_cut (ps_for PassesOwn.never rfl (pi_list (pv 3)) (pg_tup rfl (pgs_cons (pg_name (i := 7) scL.nd rfl (Or.inl rfl)) (pgs_cons (pg_name (i := 8) scL.nd rfl (Or.inl rfl)) pgs_nil)))
        (pss_one (ps_expr (pe_bm PySem.F.plainAttrs_list PySem.F.slot_list_append PySem.F.type_list_append mt_append (pv 7) (pa_cons pe_non pa_nil)))))
      (pss_one (ps_ret (pe_callB (cr_all rfl) (by rfl) T.all (by decide +kernel) (pa_cons
          (pe_lc (own := [("_law_state", 4)]) (g := gName 4) (tt := tYes) rfl scL.nd (pi_list (pv 2))
            (blkOk_by (own := [("_law_state", 4)]) (N := ["_law_script", "_law_highs", "_law_states", "_law_told", "_law_state", "_law_k", "_law_cell", "_law_one", "_law_beside", "_law_high"]) (sc := defScope sLaw) (by decide +kernel))
            (fun _ _ _ _ _ => pg_name (i := 4) scL.nd rfl (Or.inl rfl)) (fun _ _ _ _ _ => pts_nil)
            (fun _ _ _ _ _ => pe_call GSt hr (by rfl) mSt kSt bSt .nil pass0 (pa_cons (pv 4) (pa_cons (pe_lst pa_nil) pa_nil)))) pa_nil)))))))))))), ?_⟩
    -- the heights
    refine ⟨_, rfl, a, 1, 10067, 6, ns, rfl, hA, by decide, by decide, by decide, by decide, fun z0 z00 z01 => ?_⟩
    refine ⟨_, _, rfl, rfl, _, rfl, a, 2, 10069, 6, ns, rfl, hA, by decide, by decide, by decide, by decide, fun z1 z10 z11 => ?_⟩
    refine ⟨_, _, rfl, rfl, (by show 2 ≤ sizeLine; decide), fun hl hhl => ?_⟩
    obtain ⟨h0, eh0⟩ : ∃ h0 : Nat, 1 + z0 = (h0 : Int) := ⟨(1 + z0).toNat, by omega⟩
    obtain ⟨h1, eh1⟩ : ∃ h1 : Nat, 1 + z1 = (h1 : Int) := ⟨(1 + z1).toNat, by omega⟩
    dsimp only
    rw [eh0, eh1]
    generalize hH1 : upd H hl (.lst [.int h0, .int h1]) = H1
    have s1 : Same H H1 := by rw [← hH1]; exact same_new (Same.refl H) hhl
    have hhl1 : H1 hl = some (.lst [.int h0, .int h1]) := by rw [← hH1]; exact upd_same
    refine ⟨fun σ' H' => σ' = [some (.ref a), some (.ref hl), none, none, none, none, none, none, none, none] ∧ Same H H' ∧ ∃ g0 g1 : Nat, 0 < g0 ∧ g0 ≤ 64 ∧ 0 < g1 ∧ g1 ≤ 64 ∧ H' hl = some (.lst [.int g0, .int g1]), ?_, ?_⟩
    · refine ⟨_, rfl, a, 3, 10079, 8, ns, rfl, s1.seq hA, by decide, by decide, by decide, by decide, fun z2 _ _ => ?_⟩
      refine ⟨rfl, _, rfl, ?_⟩
      refine ite2 (fun _ => ?_) (fun _ => ?_)
      · refine ⟨_, rfl, hl, _, 1, 1, rfl, rfl, hhl1, rfl, ?_⟩
        refine ⟨rfl, same_put s1 hhl, h0, 64, by omega, by omega, by omega, by omega, ?_⟩
        rw [upd_same]
        rfl
      · exact ⟨rfl, s1, h0, h1, by omega, by omega, by omega, by omega, hhl1⟩
    rintro σ2 H2 ⟨rfl, s2, g0, g1, g00, g01, g10, g11, hhl2⟩
    -- the states
    refine ⟨fun σ' H' => ∃ (S : Addr) (r0 r1 : Rec), σ' = [some (.ref a), some (.ref hl), some (.ref S), none, none, none, none, none, none, none] ∧ Same H H' ∧ H' S = some (.lst [.ref r0.s, .ref r1.s]) ∧ StAt C H' r0 [] ∧ StAt C H' r1 [] ∧ r0.b ≠ r1.b ∧
      r0.l ≠ r1.l ∧ r0.l ≠ r1.m ∧ r0.m ≠ r1.l ∧ r0.m ≠ r1.m ∧ (∀ x ∈ [r0.b, r0.l, r0.m, r1.b, r1.l, r1.m], H x = none ∧ S ≠ x), ?_, ?_⟩
    · refine ⟨_, rfl, hl, rfl, ⟨_, SqL.of hhl2⟩, fun D hD => lc_list (K := K) (a := hl) (xs := [.int g0, .int g1]) (fun i H' => Same H2 H' ∧ ((i = 0 ∧ H' D = some (.lst [])) ∨
        (i = 1 ∧ ∃ r0 : Rec, H' D = some (.lst [.ref r0.s]) ∧ StAt C H' r0 [] ∧ (∀ x ∈ [r0.b, r0.l, r0.m], H2 x = none ∧ D ≠ x)) ∨
        (i = 2 ∧ ∃ r0 r1 : Rec, H' D = some (.lst [.ref r0.s, .ref r1.s]) ∧ StAt C H' r0 [] ∧ StAt C H' r1 [] ∧ r0.b ≠ r1.b ∧
          r0.l ≠ r1.l ∧ r0.l ≠ r1.m ∧ r0.m ≠ r1.l ∧ r0.m ≠ r1.m ∧ (∀ x ∈ [r0.b, r0.l, r0.m, r1.b, r1.l, r1.m], H2 x = none ∧ D ≠ x)))) ?_ ?_ ?_ ?_⟩
      · exact ⟨same_new (Same.refl H2) hD, .inl ⟨rfl, upd_same⟩⟩
      · exact fun i H' _ ⟨e, _⟩ => SqL.of (e _ _ hhl2)
      · rintro i y H' hy ⟨e, st⟩
        refine ⟨rfl, ?_⟩
        obtain ⟨g, g0', g64, rfl⟩ : ∃ g : Nat, 0 < g ∧ g ≤ 64 ∧ y = .int (g : Int) := by
          match i, hy with
          | 0, hy => exact ⟨g0, g00, g01, (Option.some.inj hy).symm⟩
          | 1, hy => exact ⟨g1, g10, g11, (Option.some.inj hy).symm⟩
          | i + 2, hy => simp at hy
        refine ⟨_, rfl, ?_⟩
        intro x dx nx ndx nex
        refine ⟨x, dx, g, rfl, upd_same, fun l H3 hl3 hx3 hl3' k3 => ⟨rfl, ?_⟩⟩
        have sA : Same H' (upd (upd H' dx (.own x)) x (.ins C dx [])) := fun b o eb => by
          rw [upd_ne (ne_of_none eb nx), upd_ne (ne_of_none eb ndx)]
          exact eb
        have s3 : Same H' H3 := same_keep sA k3 (fun b hb => by rw [List.mem_singleton] at hb; rw [hb]; exact nx)
        have nl : H' l = none := sA.free hl3
        refine ⟨_, rfl, Nat.zero_le _, fun m hm => ?_⟩
        refine ⟨(by show 3 ≤ sizeLine; decide), fun t ht => ?_⟩
        have X := made (C := C) (h := g) g0' g64 hx3 hl3' hm rfl ht
        have nm : H' m = none := s3.free hm
        have s4 : Same H' (upd H3 m (.lst [])) := same_new s3 hm
        have nt : H' t = none := s4.free ht
        have s5 := same_new (o := .tup [.ref x, .int g, .ref m]) s4 ht
        generalize upd (upd H3 m (.lst [])) t (.tup [.ref x, .int g, .ref m]) = H5 at X s5 ⊢
        have nS : ∀ {b : Addr} {acc : List V}, H' D = some (.lst acc) → H' b = none → D ≠ b := fun e1 e2 => ne_of_none e1 e2
        have kD : ∀ {acc : List V}, Keep [D] H5 (upd H5 D (.lst acc)) := (Keep.refl _ H5).put (by simp)
        have ntD : ∀ {acc : List V}, H5 D = some (.lst acc) → ∀ b ys, H5 b = some (.tup ys) → b ∉ [D] := fun e1 b ys e2 z => by
          rw [List.mem_singleton] at z
          rw [z, e1] at e2
          cases e2
        have n1 : ∀ {b : Addr}, D ≠ b → b ∉ [D] := fun h z => h (List.mem_singleton.mp z).symm
        have eH : ∀ {b : Addr}, H' b = none → H2 b = none := fun q => e.free q
        rcases st with ⟨rfl, hD'⟩ | ⟨rfl, r0, hD', x0, f0⟩ | ⟨rfl, _⟩
        · have hD5 := s5 _ _ hD'
          refine ⟨_, hD5, line1 (by decide), same_put (e.trans s5) hD, .inr (.inl ⟨rfl, ⟨t, x, dx, l, m, g⟩, upd_same, X.keep kD (n1 (nS hD' nx)) (n1 (nS hD' nl)) (n1 (nS hD' nm)) (ntD hD5), ?_⟩)⟩
          intro b hb
          simp only [List.mem_cons, List.not_mem_nil, or_false] at hb
          rcases hb with rfl | rfl | rfl
          · exact ⟨eH nx, nS hD' nx⟩
          · exact ⟨eH nl, nS hD' nl⟩
          · exact ⟨eH nm, nS hD' nm⟩
        · have hD5 := s5 _ _ hD'
          have x5 := x0.same s5
          obtain ⟨xs0, hl0, _⟩ := x0.hl
          have fb := f0 r0.b (by simp)
          have fl := f0 r0.l (by simp)
          have fm := f0 r0.m (by simp)
          refine ⟨_, hD5, line1 (by show 1 ≤ 5000; decide), same_put (e.trans s5) hD, .inr (.inr ⟨rfl, r0, ⟨t, x, dx, l, m, g⟩, upd_same, x5.keep kD (n1 fb.2) (n1 fl.2) (n1 fm.2) (ntD hD5),
            X.keep kD (n1 (nS hD' nx)) (n1 (nS hD' nl)) (n1 (nS hD' nm)) (ntD hD5), ne_of_none x0.hb nx, ne_of_none hl0 nl, ne_of_none hl0 nm, ne_of_none x0.hm nl, ne_of_none x0.hm nm, ?_⟩)⟩
          intro b hb
          simp only [List.mem_cons, List.not_mem_nil, or_false] at hb
          rcases hb with rfl | rfl | rfl | rfl | rfl | rfl
          · exact fb
          · exact fl
          · exact fm
          · exact ⟨eH nx, nS hD' nx⟩
          · exact ⟨eH nl, nS hD' nl⟩
          · exact ⟨eH nm, nS hD' nm⟩
        · simp at hy
      · rintro H' ⟨e, st⟩
        rcases st with ⟨z, _⟩ | ⟨z, _⟩ | ⟨_, r0, r1, hD', x0, x1, q1, q2, q3, q4, q5, q6⟩
        · cases z
        · cases z
        · exact ⟨D, r0, r1, rfl, s2.trans e, hD', x0, x1, q1, q2, q3, q4, q5, fun x hx => ⟨s2.free (q6 x hx).1, (q6 x hx).2⟩⟩
    rintro σ3 H3 ⟨S, r0, r1, rfl, s3, hS3, x0, x1, q1, q2, q3, q4, q5, q6⟩
    -- what is told
    refine ⟨Nat.zero_le _, fun L hL => ?_⟩
    obtain ⟨xs0, hl0, _⟩ := x0.hl
    obtain ⟨xs1, hl1, _⟩ := x1.hl
    have s4 : Same H3 (upd H3 L (.lst [])) := same_new (Same.refl H3) hL
    have c4 : Core C (upd H3 L (.lst [])) r0 r1 [] [] L [] := ⟨x0.same s4, x1.same s4, q1, q2, q3, q4, q5, (ne_of_none hl0 hL).symm, (ne_of_none x0.hm hL).symm, (ne_of_none hl1 hL).symm, (ne_of_none x1.hm hL).symm, upd_same⟩
    have hS4 := s4 _ _ hS3
    have nSL : S ≠ L := ne_of_none hS3 hL
    have hN : ∀ x ∈ muts r0 r1 L, H x = none ∧ S ≠ x := fun x hx => by
      simp only [muts, List.mem_cons, List.not_mem_nil, or_false] at hx
      rcases hx with h | h | h | h | h | h | h
      · exact q6 x (by simp [h])
      · exact q6 x (by simp [h])
      · exact q6 x (by simp [h])
      · exact q6 x (by simp [h])
      · exact q6 x (by simp [h])
      · exact q6 x (by simp [h])
      · rw [h]
        exact ⟨s3.free hL, nSL⟩
    have sH4 : Same H (upd H3 L (.lst [])) := s3.trans s4
    have nSm : S ∉ muts r0 r1 L := fun z => (hN S z).2 rfl
    generalize upd H3 L (.lst []) = H4 at s4 c4 hS4 sH4 ⊢
    refine ⟨fun σ' H' => ∃ ts : List V, σ' = [some (.ref a), some (.ref hl), some (.ref S), some (.ref L), none, none, none, none, none, none] ∧ Same H H' ∧ H' S = some (.lst [.ref r0.s, .ref r1.s]) ∧ Core C H' r0 r1 [] [] L ts ∧ Told H' (S :: muts r0 r1 L) ts ∧ ts.length ≤ 2, ?_, ?_⟩
    · refine ⟨_, rfl, S, rfl, ⟨_, SqL.of hS4⟩, fun D hD => lc_list (K := K) (a := S) (xs := [.ref r0.s, .ref r1.s]) (fun i H' => ∃ ts : List V, Same H H' ∧ H' S = some (.lst [.ref r0.s, .ref r1.s]) ∧ Core C H' r0 r1 [] [] L ts ∧ Told H' (D :: S :: muts r0 r1 L) ts ∧
        ts.length = i ∧ H' D = some (.lst ((List.replicate i true).map V.bl))) ?_ ?_ ?_ ?_⟩
      · have s5 := same_new (o := .lst []) (Same.refl H4) hD
        exact ⟨[], sH4.trans s5, s5 _ _ hS4, c4.same s5, Told.nil, rfl, upd_same⟩
      · exact fun i H' _ ⟨ts, _, e, _⟩ => SqL.of e
      · rintro i y H' hy ⟨ts, e1, e2, c, t, tl, hD'⟩
        have hi : i < 2 := (List.getElem?_eq_some_iff.mp hy).1
        refine ⟨rfl, ?_⟩
        obtain ⟨r, r', cc, rfl, back, sub⟩ : ∃ r r' : Rec, Core C H' r r' [] [] L ts ∧ y = .ref r.s ∧ (∀ H'' ts2, Core C H'' r r' [] [] L ts2 → Core C H'' r0 r1 [] [] L ts2) ∧ (∀ x, x ∈ muts r r' L → x ∈ muts r0 r1 L) := by
          match i, hy with
          | 0, hy => exact ⟨r0, r1, c, (Option.some.inj hy).symm, fun _ _ z => z, fun _ z => z⟩
          | 1, hy => exact ⟨r1, r0, c.swap, (Option.some.inj hy).symm, fun _ _ z => z.swap, fun _ z => muts_swap z⟩
          | i + 2, hy => simp at hy
        refine ⟨_, rfl, _, rfl, r, L, [], ts, rfl, cc.x, by decide, cc.hT, by omega, cc.t1, cc.t2, fun u q p ys H5 nu nq np w1 w2 w3 w4 w5 k5 => ?_⟩
        have nLD : D ≠ L := fun z => c4.fresh hD (by rw [z]; simp [muts])
        have nSD : S ≠ D := ne_of_none hS4 hD
        have hD5 : H5 D = some (.lst ((List.replicate i true).map V.bl)) := k5 _ _ hD' (by simp [nLD])
        have hS5 := k5 _ _ e2 (by simp [nSL])
        have nlen : ys.length ≤ 1000 := by rw [w5.length]; exact Nat.le_trans (torn_le _ _) (by decide)
        have t5 := told_stood c t (fun x hx => by
          rcases List.mem_cons.mp hx with rfl | hx
          · exact ⟨_, hD'⟩
          rcases List.mem_cons.mp hx with rfl | hx
          · exact ⟨_, e2⟩
          · obtain ⟨o, eo, _⟩ := c.there hx
            exact ⟨o, eo⟩) (by simp [muts]) nq np w2 w3 w4 w5 nlen k5
        have c5 := back _ _ (cc.stood k5 w1)
        have s5 : Same H H5 := same_keep e1 k5 (fun x hx => by rw [List.mem_singleton] at hx; exact (hN x (by simp [hx, muts])).1)
        have kD : Keep [D] H5 (upd H5 D (.lst ((List.replicate i true).map V.bl ++ [.bl true]))) := (Keep.refl _ H5).put (by simp)
        have ntD : ∀ b ys, H5 b = some (.tup ys) → b ∉ [D] := fun b ys e z => by
          rw [List.mem_singleton] at z
          rw [z, hD5] at e
          cases e
        refine ⟨_, hD5, by rw [List.length_map, List.length_replicate]; exact line1 (by omega), ts ++ [.ref u], same_put s5 (sH4.free hD), by rw [upd_ne nSD]; exact hS5,
          c5.keep kD (fun x hx => by rw [List.mem_singleton] at hx; rw [hx]; exact c4.fresh hD) ntD, t5.keep kD (fun x hx => by rw [List.mem_singleton] at hx; simp [hx]) ntD, by rw [List.length_append, List.length_singleton]; omega, by rw [upd_same, rep_app]⟩
      · rintro H' ⟨ts, e1, e2, c, t, tl, hD'⟩
        refine ⟨D, _, rfl, SqL.of hD', true, by rw [all_true], ?_⟩
        refine iteF ?_
        exact ⟨ts, rfl, e1, e2, c, t.mono (fun x hx => List.mem_cons_of_mem _ hx), by rw [tl]; exact Nat.le_refl 2⟩
    rintro σ5 H5 ⟨ts5, rfl, s5, hS5, c5, t5, tl5⟩
    -- the steps ahead
    refine ⟨fun σ' H' => ∃ (v : Option V) (ms : List Int), σ' = [some (.ref a), some (.ref hl), some (.ref S), some (.ref L), none, v, none, none, none, none] ∧ Same H H' ∧ H' S = some (.lst [.ref r0.s, .ref r1.s]) ∧ Core C H' r0 r1 ms [] L ts5 ∧ Told H' (S :: muts r0 r1 L) ts5 ∧ ms.length ≤ 150, ?_, ?_⟩
    · refine ⟨_, rfl, a, 4, 10091, 8, ns, rfl, s5.seq hA, by decide, by decide, by decide, by decide, fun z2 _ _ => ?_⟩
      refine ⟨rfl, _, rfl, ?_⟩
      refine ite2 (fun _ => ?_) (fun _ => ?_)
      · refine ⟨150, rfl, by decide, by decide, ?_⟩
        refine for_range (lo := 0) (n := 150) (fun i σ H' => ∃ (v : Option V) (ms : List Int), σ = [some (.ref a), some (.ref hl), some (.ref S), some (.ref L), none, v, none, none, none, none] ∧ Same H H' ∧ H' S = some (.lst [.ref r0.s, .ref r1.s]) ∧ Core C H' r0 r1 ms [] L ts5 ∧
          Told H' (S :: muts r0 r1 L) ts5 ∧ ms.length = i) ⟨none, [], rfl, s5, hS5, c5, t5, rfl⟩ ?_ ?_
        · rintro i σ H' hi ⟨v, ms, rfl, e1, e2, c, t, ml⟩
          refine ⟨_, rfl, S, _, _, .ref r0.s, rfl, rfl, SqL.of e2, rfl, _, rfl, _, _, rfl, rfl, ⟨by decide, by decide⟩, r0, ms, _, rfl, c.x, by omega, fun H6 x6 k6 => ?_⟩
          refine ⟨true, rfl, iteF ?_⟩
          have sub : ∀ x ∈ [r0.b, r0.l, r0.m], x ∈ muts r0 r1 L := fun x hx => by
            simp only [List.mem_cons, List.not_mem_nil, or_false] at hx
            rcases hx with h | h | h <;> simp [muts, h]
          exact ⟨_, _, rfl, same_keep e1 k6 (fun x hx => (hN x (sub x hx)).1), k6 _ _ e2 (fun z => nSm (sub _ z)), c.stepped x6 k6, t.keep k6 (fun x hx => List.mem_cons_of_mem _ (sub x hx)) (fun b ys e z => c.nt e (sub _ z)), by rw [List.length_append, List.length_singleton, ml]⟩
        · rintro σ H' ⟨v, ms, rfl, e1, e2, c, t, ml⟩
          exact ⟨v, ms, rfl, e1, e2, c, t, by omega⟩
      · exact ⟨none, [], rfl, s5, hS5, c5, t5, by decide⟩
    rintro σ6 H6 ⟨v6, ms6, rfl, s6, hS6, c6, t6, ml6⟩
    -- the cells
    refine ⟨fun σ' H' => ∃ (v4 v5 v6 : Option V) (ms ms' : List Int) (ts : List V), σ' = [some (.ref a), some (.ref hl), some (.ref S), some (.ref L), v4, v5, v6, none, none, none] ∧ H' S = some (.lst [.ref r0.s, .ref r1.s]) ∧ Core C H' r0 r1 ms ms' L ts ∧ Told H' (S :: muts r0 r1 L) ts ∧
      ms.length ≤ 1000 ∧ ms'.length ≤ 1000 ∧ ts.length ≤ 1000, ?_, ?_⟩
    · refine ⟨_, rfl, a, ns, rfl, s6.seq hA, hlen, fun cl cs H7 s7 ncl hcl7 csl => ?_⟩
      have ncm : cl ∉ muts r0 r1 L := c6.fresh ncl
      refine ⟨cl, rfl, ⟨_, SqL.of hcl7⟩, for_list (K := K) (a := cl) (xs := cs.map V.int) (fun i σ H' => ∃ (v4 v5 v6 : Option V) (ms ms' : List Int) (ts : List V), σ = [some (.ref a), some (.ref hl), some (.ref S), some (.ref L), v4, v5, v6, none, none, none] ∧
        H' cl = some (.lst (cs.map V.int)) ∧ H' S = some (.lst [.ref r0.s, .ref r1.s]) ∧ Core C H' r0 r1 ms ms' L ts ∧ Told H' (S :: muts r0 r1 L) ts ∧ ms.length ≤ 150 + i ∧ ms'.length ≤ 150 + i ∧ ts.length ≤ 2 + 2 * i)
        ⟨none, v6, none, ms6, [], ts5, rfl, hcl7, s7 _ _ hS6, c6.same s7, t6.same s7, by omega, by simp, by omega⟩ (fun i σ H' _ ⟨_, _, _, _, _, _, _, e, _⟩ => SqL.of e) ?_ ?_⟩
      · rintro i y σ H' hy ⟨v4, v5, v6, ma, mb, ts, rfl, ecl, eS, c, t, la, lb, lt⟩
        have hi : i < cs.length := by
          have q := (List.getElem?_eq_some_iff.mp hy).1
          rw [List.length_map] at q
          exact q
        obtain ⟨z, _, rfl⟩ := map_get hy
        obtain ⟨r, r', ms, ms', j, j', cc, ej, ej', g, g', l0, l1, back, sub⟩ : ∃ (r r' : Rec) (ms ms' : List Int) (j j' : Nat), Core C H' r r' ms ms' L ts ∧ z % 2 = (j : Int) ∧ 1 - z % 2 = (j' : Int) ∧ ([.ref r0.s, .ref r1.s] : List V)[j]? = some (.ref r.s) ∧
            ([.ref r0.s, .ref r1.s] : List V)[j']? = some (.ref r'.s) ∧ ms.length ≤ 150 + i ∧ ms'.length ≤ 150 + i ∧
            (∀ H'' ms2 ts2, Core C H'' r r' ms2 ms' L ts2 → ms2.length ≤ 150 + (i + 1) → ∃ na nb, Core C H'' r0 r1 na nb L ts2 ∧ na.length ≤ 150 + (i + 1) ∧ nb.length ≤ 150 + (i + 1)) ∧ (∀ x, x ∈ muts r r' L → x ∈ muts r0 r1 L) := by
          have h2 : z % 2 = 0 ∨ z % 2 = 1 := by omega
          rcases h2 with h2 | h2
          · exact ⟨r0, r1, ma, mb, 0, 1, c, by omega, by omega, rfl, rfl, la, lb, fun H'' ms2 ts2 q n => ⟨ms2, mb, q, n, by omega⟩, fun _ q => q⟩
          · exact ⟨r1, r0, mb, ma, 1, 0, c.swap, by omega, by omega, rfl, rfl, lb, la, fun H'' ms2 ts2 q n => ⟨ma, ms2, q.swap, by omega, n⟩, fun _ q => muts_swap q⟩
        refine ⟨_, rfl, _, rfl, _, _, rfl, rfl, (by show (0 : Int) < 2; decide), S, _, _, .ref r.s, rfl, rfl, SqL.of eS, at_of ej g, ?_⟩
        refine ⟨_, rfl, _, rfl, _, rfl, r.s, _, _, .ref r.m, rfl, rfl, SqT.of cc.x.hs, rfl, z, r.m, ms, rfl, cc.x.hm, fun mk => ?_⟩
        refine ⟨r, ms, mk, rfl, cc.x, by omega, fun H8 x8 k8 => ?_⟩
        refine ⟨true, rfl, iteF ?_⟩
        have sub3 : ∀ x ∈ [r.b, r.l, r.m], x ∈ muts r0 r1 L := fun x hx => by
          simp only [List.mem_cons, List.not_mem_nil, or_false] at hx
          exact sub x (by rcases hx with h | h | h <;> simp [muts, h])
        have c8 := cc.stepped x8 k8
        have t8 := t.keep k8 (fun x hx => List.mem_cons_of_mem _ (sub3 x hx)) (fun b ys e z => c.nt e (sub3 _ z))
        have eS8 := k8 _ _ eS (fun z => nSm (sub3 _ z))
        have ecl8 := k8 _ _ ecl (fun z => ncm (sub3 _ z))
        have len8 : (ms ++ [mk]).length ≤ 1000 := by rw [List.length_append, List.length_singleton]; omega
        -- the first look
        refine ⟨_, rfl, _, rfl, r, L, ms ++ [mk], ts, rfl, c8.x, len8, c8.hT, by omega, c8.t1, c8.t2, fun u q p ys H9 nu nq np w1 w2 w3 w4 w5 k9 => ?_⟩
        refine ⟨true, rfl, iteF ?_⟩
        have nlL : ∀ {b : Addr}, b ∉ muts r0 r1 L → b ∉ [L] := fun h z => h (by rw [List.mem_singleton] at z; simp [muts, z])
        have c9 := c8.stood k9 w1
        have t9 := told_stood c8 t8 (fun x hx => by
          rcases List.mem_cons.mp hx with rfl | hx
          · exact ⟨_, eS8⟩
          · obtain ⟨na, nb, c8', _, _⟩ := back _ _ _ c8 (by rw [List.length_append, List.length_singleton]; omega)
            obtain ⟨o, eo, _⟩ := c8'.there hx
            exact ⟨o, eo⟩) (by simp [muts]) nq np w2 w3 w4 w5 (by rw [w5.length]; exact Nat.le_trans (torn_le _ _) len8) k9
        have eS9 := k9 _ _ eS8 (nlL nSm)
        have ecl9 := k9 _ _ ecl8 (nlL ncm)
        -- the second look
        have c9' := c9.swap
        refine ⟨_, rfl, _, rfl, _, _, rfl, rfl, (by show (0 : Int) < 2; decide), _, _, rfl, rfl, S, _, _, .ref r'.s, rfl, rfl, SqL.of eS9, at_of ej' g', ?_⟩
        refine ⟨_, rfl, r', L, ms', ts ++ [.ref u], rfl, c9'.x, by omega, c9'.hT, by rw [List.length_append, List.length_singleton]; omega, c9'.t1, c9'.t2, fun u2 q2 p2 ys2 H10 nu2 nq2 np2 y1 y2 y3 y4 y5 k10 => ?_⟩
        refine ⟨true, rfl, iteF ?_⟩
        have c10 := (c9'.stood k10 y1).swap
        have t10 := told_stood c9 t9 (fun x hx => by
          rcases List.mem_cons.mp hx with rfl | hx
          · exact ⟨_, eS9⟩
          · obtain ⟨na, nb, c9'', _, _⟩ := back _ _ _ c9 (by rw [List.length_append, List.length_singleton]; omega)
            obtain ⟨o, eo, _⟩ := c9''.there hx
            exact ⟨o, eo⟩) (by simp [muts]) nq2 np2 y2 y3 y4 y5 (by rw [y5.length]; exact Nat.le_trans (torn_le _ _) (by omega)) k10
        obtain ⟨na, nb, cE, lna, lnb⟩ := back _ _ _ c10 (by rw [List.length_append, List.length_singleton]; omega)
        exact ⟨_, _, _, na, nb, _, rfl, k10 _ _ ecl9 (nlL ncm), k10 _ _ eS9 (nlL nSm), cE, t10, lna, lnb, by rw [List.length_append, List.length_append, List.length_singleton, List.length_singleton]; omega⟩
      · rintro σ H' ⟨v4, v5, v6, ma, mb, ts, rfl, _, eS, c, t, la, lb, lt⟩
        rw [List.length_map] at la lb lt
        exact ⟨v4, v5, v6, ma, mb, ts, rfl, eS, c, t, by omega, by omega, by omega⟩
    rintro σ7 H7 ⟨v4, v5, v6, ma, mb, ts, rfl, hS7, c7, t7, la, lb, lt⟩
    -- each told list is as it was
    refine ⟨fun σ' H' => σ' = [some (.ref a), some (.ref hl), some (.ref S), some (.ref L), v4, v5, v6, none, none, none] ∧ H' S = some (.lst [.ref r0.s, .ref r1.s]) ∧ Core C H' r0 r1 ma mb L ts ∧ Told H' (S :: muts r0 r1 L) ts, ?_, ?_⟩
    · refine ⟨_, rfl, L, rfl, ⟨_, SqL.of c7.hT⟩, fun D hD => lc_list (K := K) (a := L) (xs := ts) (fun i H' => Same H7 H' ∧ H' D = some (.lst ((List.replicate i true).map V.bl)) ∧ i ≤ 1000) ?_ ?_ ?_ ?_⟩
      · exact ⟨same_new (Same.refl H7) hD, upd_same, by decide⟩
      · exact fun i H' _ ⟨e, _, _⟩ => SqL.of (e _ _ c7.hT)
      · rintro i y H' hy ⟨e, hD', li⟩
        have hi : i < ts.length := (List.getElem?_eq_some_iff.mp hy).1
        obtain ⟨u, q, q2, ys, ps, rfl, w1, w2, w3, w4, _, _, _⟩ := t7 y (List.mem_of_getElem? hy)
        refine ⟨u, _, rfl, SqT.of (e _ _ w1), rfl, _, _, rfl, _, _, rfl, rfl, rfl, ?_⟩
        refine ⟨_, rfl, _, rfl, _, _, Tups.dpL (e _ _ w2) (w4.same e), Tups.dpL (e _ _ w3) (w4.same e), pDs_shaped _, pDs_shaped _, ?_⟩
        rw [shaped_refl (pDs_shaped _)]
        exact ⟨_, hD', by rw [List.length_map, List.length_replicate]; exact line1 (by omega), same_put e hD, by rw [upd_same, rep_app], by omega⟩
      · rintro H' ⟨e, hD', _⟩
        refine ⟨D, _, rfl, SqL.of hD', true, by rw [all_true], ?_⟩
        refine iteF ?_
        exact ⟨rfl, e _ _ hS7, c7.same e, t7.same e⟩
    rintro σ8 H8 ⟨rfl, hS8, c8, t8⟩
    -- and may be changed
    refine ⟨fun σ' H' => ∃ v7 v8 : Option V, σ' = [some (.ref a), some (.ref hl), some (.ref S), some (.ref L), v4, v5, v6, v7, v8, none] ∧ H' S = some (.lst [.ref r0.s, .ref r1.s]) ∧ Core C H' r0 r1 ma mb L ts, ?_, ?_⟩
    · refine ⟨_, rfl, L, rfl, ⟨_, SqL.of c8.hT⟩, for_list (K := K) (a := L) (xs := ts) (fun i σ H' => ∃ v7 v8 : Option V, σ = [some (.ref a), some (.ref hl), some (.ref S), some (.ref L), v4, v5, v6, v7, v8, none] ∧ H' S = some (.lst [.ref r0.s, .ref r1.s]) ∧ Core C H' r0 r1 ma mb L ts ∧
        Grown H' (S :: muts r0 r1 L) (1000 + i) ts) ⟨none, none, rfl, hS8, c8, t8.grown⟩ (fun i σ H' _ ⟨_, _, _, _, c, _⟩ => SqL.of c.hT) ?_ ?_⟩
      · rintro i y σ H' hy ⟨v7, v8, rfl, eS, c, g⟩
        have hi : i < ts.length := (List.getElem?_eq_some_iff.mp hy).1
        obtain ⟨u, q, q2, ys, rfl, w1, w2, w3, w4⟩ := g y (List.mem_of_getElem? hy)
        refine ⟨u, _, rfl, SqT.of w1, rfl, _, _, rfl, _, _, rfl, rfl, ?_⟩
        refine ⟨_, rfl, .inl ⟨rfl, _, SqL.of w2⟩, q, _, _, rfl, rfl, w2, line1 (by omega), ?_⟩
        have kq : Keep [q] H' (upd H' q (.lst (ys ++ [.non]))) := (Keep.refl _ H').put (by simp)
        have nSq : S ≠ q := fun z => w4 (by simp [z])
        refine ⟨_, _, rfl, by rw [upd_ne nSq]; exact eS, c.keep kq (fun x hx => ?_) (fun b zs e z => ?_), g.put w2 w3⟩
        · rw [List.mem_singleton] at hx
          rw [hx]
          exact fun z => w4 (List.mem_cons_of_mem _ z)
        · rw [List.mem_singleton] at z
          rw [z, w2] at e
          cases e
      · rintro σ H' ⟨v7, v8, rfl, eS, c, _⟩
        exact ⟨v7, v8, rfl, eS, c⟩
    rintro σ9 H9 ⟨v7, v8, rfl, hS9, c9⟩
    -- the last look
    refine ⟨_, rfl, S, rfl, ⟨_, SqL.of hS9⟩, fun D hD => lc_list (K := K) (a := S) (xs := [.ref r0.s, .ref r1.s]) (fun i H' => H' S = some (.lst [.ref r0.s, .ref r1.s]) ∧ Core C H' r0 r1 ma mb L ts ∧ H' D = some (.lst ((List.replicate i true).map V.bl)) ∧ i ≤ 2) ?_ ?_ ?_ ?_⟩
    · have s10 := same_new (o := .lst []) (Same.refl H9) hD
      exact ⟨s10 _ _ hS9, c9.same s10, upd_same, by decide⟩
    · exact fun i H' _ ⟨e, _⟩ => SqL.of e
    · rintro i y H' hy ⟨eS, c, hD', li⟩
      have hi : i < 2 := (List.getElem?_eq_some_iff.mp hy).1
      have nSD : S ≠ D := ne_of_none hS9 hD
      refine ⟨rfl, ?_⟩
      obtain ⟨r, r', ms, ms', cc, rfl, lm, back⟩ : ∃ (r r' : Rec) (ms ms' : List Int), Core C H' r r' ms ms' L ts ∧ y = .ref r.s ∧ ms.length ≤ 1000 ∧ (∀ H'', Core C H'' r r' ms ms' L ts → Core C H'' r0 r1 ma mb L ts) := by
        match i, hy with
        | 0, hy => exact ⟨r0, r1, ma, mb, c, (Option.some.inj hy).symm, la, fun _ z => z⟩
        | 1, hy => exact ⟨r1, r0, mb, ma, c.swap, (Option.some.inj hy).symm, lb, fun _ z => z.swap⟩
        | i + 2, hy => simp at hy
      refine ⟨_, rfl, Nat.zero_le _, fun z hz => ?_⟩
      have sz := same_new (o := .lst []) (Same.refl H') hz
      have hz' : upd H' z (.lst []) z = some (.lst []) := upd_same
      generalize upd H' z (.lst []) = Hz at sz hz' ⊢
      have cz := cc.same sz
      have nz := cc.fresh hz
      refine ⟨r, z, ms, [], rfl, cz.x, lm, hz', by decide, fun e => nz (by simp [muts, e]), fun e => nz (by simp [muts, e]), fun u q p ys H10 nu nq np w1 w2 w3 w4 w5 k10 => ?_⟩
      have ntz : ∀ b ys, Hz b = some (.tup ys) → b ∉ [z] := fun b ys e q => by
        rw [List.mem_singleton] at q
        rw [q, hz'] at e
        cases e
      have c10 := back _ (cz.keep k10 (fun x hx => by rw [List.mem_singleton] at hx; rw [hx]; exact nz) ntz)
      have hD10 := k10 _ _ (sz _ _ hD') (by simp [ne_of_none hD' hz])
      have hS10 := k10 _ _ (sz _ _ eS) (by simp [ne_of_none eS hz])
      have kD : Keep [D] H10 (upd H10 D (.lst ((List.replicate i true).map V.bl ++ [.bl true]))) := (Keep.refl _ H10).put (by simp)
      refine ⟨_, hD10, by rw [List.length_map, List.length_replicate]; exact line1 (by omega), by rw [upd_ne nSD]; exact hS10, c10.keep kD (fun x hx => by rw [List.mem_singleton] at hx; rw [hx]; exact c9.fresh hD) (fun b zs e q => ?_), by rw [upd_same, rep_app], by omega⟩
      rw [List.mem_singleton] at q
      rw [q, hD10] at e
      cases e
    · rintro H' ⟨_, _, hD', _⟩
      refine ⟨D, _, rfl, SqL.of hD', ?_⟩
      rw [all_true]
      exact k _
end
end Bm

namespace Bm
open PySem L2
/-! ### what the top has written, the head -/
theorem all_mk {l : PySem.W.OpenLaw} {w : World} {K : PySem.W.Frag} {h : Heap} {mg : Str → Option Value} {fa C f1 f2 f3 f4 f5 f6 f7 f8 f9 f10 f11 f12 f13 f14 : Addr} (X : K.In h) (G : h.Ns mainGlobals mg) (hfa : mg "law" = some (.ref fa))
    {od1 an1 od2 an2 od3 an3 od4 an4 od5 an5 od6 an6 od7 an7 od8 an8 od9 an9 od10 an10 od11 an11 od12 an12 od13 an13 od14 an14 : Option Addr} {sl1 sl2 sl3 sl4 sl5 sl6 sl7 sl8 sl9 sl10 sl11 sl12 sl13 sl14 : Array (Option Value)} {oc1 kV1 dc1 pm1 cd1 ct1 oc2 kV2 dc2 pm2 cd2 ct2 oc3 kV3 dc3 pm3 cd3 ct3 oc4 kV4 dc4 pm4 cd4 ct4 oc5 kV5 dc5 pm5 cd5 ct5 oc6 kV6 dc6 pm6 cd6 ct6 oc7 kV7 dc7 pm7 cd7 ct7 oc8 kV8 dc8 pm8 cd8 ct8 oc9 kV9 dc9 pm9 cd9 ct9 oc10 kV10 dc10 pm10 cd10 ct10 oc11 kV11 dc11 pm11 cd11 ct11 oc12 kV12 dc12 pm12 cd12 ct12 oc13 kV13 dc13 pm13 cd13 ct13 oc14 kV14 dc14 pm14 cd14 ct14 : Value}
    (aC : PySem.W.nsIn K mainGlobals "Beam" = some (some (.ref C)))
    (a1 : PySem.W.findIn K (.ref C) "__init__" = some (some (.ref f1))) (i1 : PySem.W.isFn K (.ref f1) = true)
    (l1 : K.lookup f1 = some ⟨oc1, od1, .func (PySem.W.fnOf "__init__" "Beam.__init__" (defArgs sInit) (defBody sInit) (defScope sInit) .none kV1 dc1 pm1 an1 cd1 ct1), sl1⟩) (c1 : PySem.W.codeIn K cd1 "Beam.__init__" = true) (k1 : PySem.W.keepIn K (.ref f1) = true)
    (a2 : PySem.W.findIn K (.ref C) "step" = some (some (.ref f2))) (i2 : PySem.W.isFn K (.ref f2) = true)
    (l2 : K.lookup f2 = some ⟨oc2, od2, .func (PySem.W.fnOf "step" "Beam.step" (defArgs sStep) (defBody sStep) (defScope sStep) .none kV2 dc2 pm2 an2 cd2 ct2), sl2⟩) (c2 : PySem.W.codeIn K cd2 "Beam.step" = true) (k2 : PySem.W.keepIn K (.ref f2) = true)
    (a3 : PySem.W.findIn K (.ref C) "ahead" = some (some (.ref f3))) (i3 : PySem.W.isFn K (.ref f3) = true)
    (l3 : K.lookup f3 = some ⟨oc3, od3, .func (PySem.W.fnOf "ahead" "Beam.ahead" (defArgs sAhead) (defBody sAhead) (defScope sAhead) .none kV3 dc3 pm3 an3 cd3 ct3), sl3⟩) (c3 : PySem.W.codeIn K cd3 "Beam.ahead" = true) (k3 : PySem.W.keepIn K (.ref f3) = true)
    (a4 : PySem.W.findIn K (.ref C) "rests" = some (some (.ref f4))) (i4 : PySem.W.isFn K (.ref f4) = true)
    (l4 : K.lookup f4 = some ⟨oc4, od4, .func (PySem.W.fnOf "rests" "Beam.rests" (defArgs sRests) (defBody sRests) (defScope sRests) .none kV4 dc4 pm4 an4 cd4 ct4), sl4⟩) (c4 : PySem.W.codeIn K cd4 "Beam.rests" = true) (k4 : PySem.W.keepIn K (.ref f4) = true)
    (a5 : PySem.W.findIn K (.ref C) "torn" = some (some (.ref f5))) (i5 : PySem.W.isFn K (.ref f5) = true)
    (l5 : K.lookup f5 = some ⟨oc5, od5, .func (PySem.W.fnOf "torn" "Beam.torn" (defArgs sTorn) (defBody sTorn) (defScope sTorn) .none kV5 dc5 pm5 an5 cd5 ct5), sl5⟩) (c5 : PySem.W.codeIn K cd5 "Beam.torn" = true) (k5 : PySem.W.keepIn K (.ref f5) = true)
    (a6 : PySem.W.nsIn K mainGlobals "_law_draw" = some (some (.ref f6)))
    (l6 : K.lookup f6 = some ⟨oc6, od6, .func (PySem.W.fnOf "_law_draw" "_law_draw" (defArgs sDraw) (defBody sDraw) (defScope sDraw) .none kV6 dc6 pm6 an6 cd6 ct6), sl6⟩) (c6 : PySem.W.codeIn K cd6 "_law_draw" = true) (k6 : PySem.W.keepIn K (.ref f6) = true)
    (a7 : PySem.W.nsIn K mainGlobals "_law_whole" = some (some (.ref f7)))
    (l7 : K.lookup f7 = some ⟨oc7, od7, .func (PySem.W.fnOf "_law_whole" "_law_whole" (defArgs sWhole) (defBody sWhole) (defScope sWhole) .none kV7 dc7 pm7 an7 cd7 ct7), sl7⟩) (c7 : PySem.W.codeIn K cd7 "_law_whole" = true) (k7 : PySem.W.keepIn K (.ref f7) = true)
    (a8 : PySem.W.nsIn K mainGlobals "_law_pair" = some (some (.ref f8)))
    (l8 : K.lookup f8 = some ⟨oc8, od8, .func (PySem.W.fnOf "_law_pair" "_law_pair" (defArgs sPair) (defBody sPair) (defScope sPair) .none kV8 dc8 pm8 an8 cd8 ct8), sl8⟩) (c8 : PySem.W.codeIn K cd8 "_law_pair" = true) (k8 : PySem.W.keepIn K (.ref f8) = true)
    (a9 : PySem.W.nsIn K mainGlobals "_law_torn" = some (some (.ref f9)))
    (l9 : K.lookup f9 = some ⟨oc9, od9, .func (PySem.W.fnOf "_law_torn" "_law_torn" (defArgs sLTorn) (defBody sLTorn) (defScope sLTorn) .none kV9 dc9 pm9 an9 cd9 ct9), sl9⟩) (c9 : PySem.W.codeIn K cd9 "_law_torn" = true) (k9 : PySem.W.keepIn K (.ref f9) = true)
    (a10 : PySem.W.nsIn K mainGlobals "_law_stands" = some (some (.ref f10)))
    (l10 : K.lookup f10 = some ⟨oc10, od10, .func (PySem.W.fnOf "_law_stands" "_law_stands" (defArgs sStands) (defBody sStands) (defScope sStands) .none kV10 dc10 pm10 an10 cd10 ct10), sl10⟩) (c10 : PySem.W.codeIn K cd10 "_law_stands" = true) (k10 : PySem.W.keepIn K (.ref f10) = true)
    (a11 : PySem.W.nsIn K mainGlobals "_law_stepped" = some (some (.ref f11)))
    (l11 : K.lookup f11 = some ⟨oc11, od11, .func (PySem.W.fnOf "_law_stepped" "_law_stepped" (defArgs sStepped) (defBody sStepped) (defScope sStepped) .none kV11 dc11 pm11 an11 cd11 ct11), sl11⟩) (c11 : PySem.W.codeIn K cd11 "_law_stepped" = true) (k11 : PySem.W.keepIn K (.ref f11) = true)
    (a12 : PySem.W.nsIn K mainGlobals "_law_make" = some (some (.ref f12)))
    (l12 : K.lookup f12 = some ⟨oc12, od12, .func (PySem.W.fnOf "_law_make" "_law_make" (defArgs sMake) (defBody sMake) (defScope sMake) .none kV12 dc12 pm12 an12 cd12 ct12), sl12⟩) (c12 : PySem.W.codeIn K cd12 "_law_make" = true) (k12 : PySem.W.keepIn K (.ref f12) = true)
    (a13 : PySem.W.nsIn K mainGlobals "_law_cells" = some (some (.ref f13)))
    (l13 : K.lookup f13 = some ⟨oc13, od13, .func (PySem.W.fnOf "_law_cells" "_law_cells" (defArgs sCells) (defBody sCells) (defScope sCells) .none kV13 dc13 pm13 an13 cd13 ct13), sl13⟩) (c13 : PySem.W.codeIn K cd13 "_law_cells" = true) (k13 : PySem.W.keepIn K (.ref f13) = true)
    (a14 : PySem.W.nsIn K mainGlobals "law" = some (some (.ref f14)))
    (l14 : K.lookup f14 = some ⟨oc14, od14, .func (PySem.W.fnOf "law" "law" (defArgs sLaw) (defBody sLaw) (defScope sLaw) .none kV14 dc14 pm14 an14 cd14 ct14), sl14⟩) (c14 : PySem.W.codeIn K cd14 "law" = true) (k14 : PySem.W.keepIn K (.ref f14) = true)
    (pg : PySem.W.plainGet K C Str.empty = true) (hd : PySem.W.hasDictIn K C = true) (po : PySem.W.plainOver K C = true) (sa : PySem.W.findIn K (.ref C) "__setattr__" = some (some (.builtin "object.__setattr__"))) (mk : PySem.W.makesIn K C = true) (kc : PySem.W.keepIn K (.ref C) = true)
    (nR : PySem.W.findIn K (.ref C) "rows" = some none)
    (nT : PySem.W.findIn K (.ref C) "turn" = some none)
    (nN : PySem.W.findIn K (.ref C) "row_next" = some none)
    (nL : PySem.W.findIn K (.ref C) "last_make" = some none)
    (nO : PySem.W.findIn K (.ref C) "torn_rows" = some none)
    (zLen : PySem.W.nsIn K mainGlobals "len" = some none)
    (zList : PySem.W.nsIn K mainGlobals "list" = some none)
    (zAll : PySem.W.nsIn K mainGlobals "all" = some none)
    (zRange : PySem.W.nsIn K mainGlobals "range" = some none)
    (zIsi : PySem.W.nsIn K mainGlobals "isinstance" = some none)
    (zInt : PySem.W.nsIn K mainGlobals "int" = some none)
    (zBool : PySem.W.nsIn K mainGlobals "bool" = some none)
    (zTuple : PySem.W.nsIn K mainGlobals "tuple" = some none)
    : ∃ fd : FuncData, (∀ (s : Shared) (v : Value), BindsTo s fd ⟨[v], []⟩ [("_law_script", v)]) ∧ ∀ base : Heap, K.In base → base.Ns mainGlobals mg → FnOk l.prog w K mg base CX0 4 fa fd ["_law_script"] (spLaw K) := by
  have e := hfa.symm.trans (PySem.W.mg_of X G a14)
  cases e
  have T : Txt K mg C := ⟨⟨pg, hd, po, sa⟩, nR, nT, nN, nL, nO, PySem.W.mg_of X G aC, PySem.W.mg_none_of X G zLen, PySem.W.mg_none_of X G zList, PySem.W.mg_none_of X G zAll, PySem.W.mg_none_of X G zRange, PySem.W.mg_none_of X G zIsi, PySem.W.mg_none_of X G zInt, PySem.W.mg_none_of X G zBool, PySem.W.mg_none_of X G zTuple⟩
  have F1 := fun_mk (st := sInit) l1 c1 k1
  have b1 := F1.binds (ps := ["self", "high"]) fun _ _ _ _ _ _ us hl => match us, hl with | [_, _], _ => rfl
  have F2 := fun_mk (st := sStep) l2 c2 k2
  have b2 := F2.binds (ps := ["self", "make"]) fun _ _ _ _ _ _ us hl => match us, hl with | [_, _], _ => rfl
  have F3 := fun_mk (st := sAhead) l3 c3 k3
  have b3 := F3.binds (ps := ["self"]) fun _ _ _ _ _ _ us hl => match us, hl with | [_], _ => rfl
  have F4 := fun_mk (st := sRests) l4 c4 k4
  have b4 := F4.binds (ps := ["self"]) fun _ _ _ _ _ _ us hl => match us, hl with | [_], _ => rfl
  have F5 := fun_mk (st := sTorn) l5 c5 k5
  have b5 := F5.binds (ps := ["self"]) fun _ _ _ _ _ _ us hl => match us, hl with | [_], _ => rfl
  have F6 := fun_mk (st := sDraw) l6 c6 k6
  have b6 := F6.binds (ps := ["_law_script", "_law_k", "_law_prime", "_law_many"]) fun _ _ _ _ _ _ us hl => match us, hl with | [_, _, _, _], _ => rfl
  have m6 := PySem.W.mg_of X G a6
  have F7 := fun_mk (st := sWhole) l7 c7 k7
  have b7 := F7.binds (ps := ["_law_found"]) fun _ _ _ _ _ _ us hl => match us, hl with | [_], _ => rfl
  have m7 := PySem.W.mg_of X G a7
  have F8 := fun_mk (st := sPair) l8 c8 k8
  have b8 := F8.binds (ps := ["_law_found", "_law_due"]) fun _ _ _ _ _ _ us hl => match us, hl with | [_, _], _ => rfl
  have m8 := PySem.W.mg_of X G a8
  have F9 := fun_mk (st := sLTorn) l9 c9 k9
  have b9 := F9.binds (ps := ["_law_makes", "_law_high"]) fun _ _ _ _ _ _ us hl => match us, hl with | [_, _], _ => rfl
  have m9 := PySem.W.mg_of X G a9
  have F10 := fun_mk (st := sStands) l10 c10 k10
  have b10 := F10.binds (ps := ["_law_state", "_law_told"]) fun _ _ _ _ _ _ us hl => match us, hl with | [_, _], _ => rfl
  have m10 := PySem.W.mg_of X G a10
  have F11 := fun_mk (st := sStepped) l11 c11 k11
  have b11 := F11.binds (ps := ["_law_state", "_law_make_here"]) fun _ _ _ _ _ _ us hl => match us, hl with | [_, _], _ => rfl
  have m11 := PySem.W.mg_of X G a11
  have F12 := fun_mk (st := sMake) l12 c12 k12
  have b12 := F12.binds (ps := ["_law_cell", "_law_makes"]) fun _ _ _ _ _ _ us hl => match us, hl with | [_, _], _ => rfl
  have m12 := PySem.W.mg_of X G a12
  have F13 := fun_mk (st := sCells) l13 c13 k13
  have b13 := F13.binds (ps := ["_law_script"]) fun _ _ _ _ _ _ us hl => match us, hl with | [_], _ => rfl
  have m13 := PySem.W.mg_of X G a13
  have F14 := fun_mk (st := sLaw) l14 c14 k14
  refine ⟨PySem.W.fnOf "law" "law" (defArgs sLaw) (defBody sLaw) (defScope sLaw) .none kV14 dc14 pm14 an14 cd14 ct14, fun s v => .of_eq rfl, fun base _ _ => ?_⟩
  have GP := ok_pair (P := l.prog) (w := w) (base := base) F8 T F7 m7 b7
  exact ok_law F14 T (ok_draw F6 T) m6 F6.kp b6
    (ok_stands F10 T GP m8 F8.kp b8 (ok_ltorn F9 T) m9 F9.kp b9 (ok_ahead F3 T) ⟨a3, i3, k3⟩ b3 (ok_rests F4 T) ⟨a4, i4, k4⟩ b4 (ok_torn F5 T) ⟨a5, i5, k5⟩ b5) m10 F10.kp b10
    (ok_stepped F11 T GP m8 F8.kp b8 (ok_step F2 T) ⟨a2, i2, k2⟩ b2) m11 F11.kp b11
    (ok_make F12 T) m12 F12.kp b12 (ok_cells F13 T F6 m6 b6) m13 F13.kp b13 ⟨mk, a1, i1, kc⟩ (ok_init F1 T) b1
theorem walk {l : PySem.W.OpenLaw} {q : Program} {loose : List Str} {XP : (Str → Option Value) → Heap → Prop} {YP : World → Heap → Prop} {d : DefRec} {K : Params → PySem.W.Frag} (hn : l.most = some 63) (hdf : d.params.defaults = [])
    (hY : ∀ (w : World) (h : Heap), YP w h → (K w.params).In h)
    (F : ∀ (w : World) (mg : Str → Option Value) (fa : Addr) (h : Heap), (K w.params).In h → h.Ns mainGlobals mg → mg d.name = some (.ref fa) →
      ∃ fd : FuncData, (∀ (s : Shared) (u : Value), BindsTo s fd ⟨[u], []⟩ [("_law_script", u)]) ∧ ∀ base : Heap, (K w.params).In base → base.Ns mainGlobals mg → FnOk l.prog w (K w.params) mg base CX0 4 fa fd ["_law_script"] (spLaw (K w.params))) :
    PySem.W.WalkO q loose XP YP l.row.toRowW d [] (fun f vs => PySem.call f vs) :=
  L2.walk_of (n := 63) (k := 4) (x := "_law_script") (CX := fun _ => CX0) (sp := fun w => spLaw (K w.params)) hn (by decide) hdf ⟨rfl, by decide, by decide⟩ hY F (fun _ _ a ns hl _ hS => ⟨a, ns, rfl, hS, hl, fun _ => rfl⟩) fun _ _ _ _ _ z => z
end Bm

open PySem PySem.W PyProof.Rows in
set_option maxRecDepth 100000 in
set_option maxHeartbeats 0 in
theorem PySem.Challenge.cw_glowboard_k53_whole_beams_holds : PySem.Challenge.rw_glowboard_k53_whole_beams.Holds := by
  w_on; o_law; k_head; (case hw => w_witness2)
  k_fill
  refine Bm.walk (l := PySem.Challenge.rw_glowboard_k53_whole_beams) rfl rfl (fun w h Y => PySem.W.kIn_of Y) ?F
  case F =>
    intro w mg fa h KX G hmg
    refine' Bm.all_mk KX G hmg ?aC ?a1 ?i1 ?l1 ?c1 ?k1 ?a2 ?i2 ?l2 ?c2 ?k2 ?a3 ?i3 ?l3 ?c3 ?k3 ?a4 ?i4 ?l4 ?c4 ?k4 ?a5 ?i5 ?l5 ?c5 ?k5 ?a6 ?l6 ?c6 ?k6 ?a7 ?l7 ?c7 ?k7 ?a8 ?l8 ?c8 ?k8 ?a9 ?l9 ?c9 ?k9 ?a10 ?l10 ?c10 ?k10 ?a11 ?l11 ?c11 ?k11 ?a12 ?l12 ?c12 ?k12 ?a13 ?l13 ?c13 ?k13 ?a14 ?l14 ?c14 ?k14 ?pg ?hd ?po ?sa ?mk ?kc ?nR ?nT ?nN ?nL ?nO ?zLen ?zList ?zAll ?zRange ?zIsi ?zInt ?zBool ?zTuple
    (case aC => k_is)
    (case a1 => k_is)
    (case i1 => k_is)
    (case l1 => k_is)
    (case c1 => k_is)
    (case k1 => k_is)
    (case a2 => k_is)
    (case i2 => k_is)
    (case l2 => k_is)
    (case c2 => k_is)
    (case k2 => k_is)
    (case a3 => k_is)
    (case i3 => k_is)
    (case l3 => k_is)
    (case c3 => k_is)
    (case k3 => k_is)
    (case a4 => k_is)
    (case i4 => k_is)
    (case l4 => k_is)
    (case c4 => k_is)
    (case k4 => k_is)
    (case a5 => k_is)
    (case i5 => k_is)
    (case l5 => k_is)
    (case c5 => k_is)
    (case k5 => k_is)
    (case a6 => k_is)
    (case l6 => k_is)
    (case c6 => k_is)
    (case k6 => k_is)
    (case a7 => k_is)
    (case l7 => k_is)
    (case c7 => k_is)
    (case k7 => k_is)
    (case a8 => k_is)
    (case l8 => k_is)
    (case c8 => k_is)
    (case k8 => k_is)
    (case a9 => k_is)
    (case l9 => k_is)
    (case c9 => k_is)
    (case k9 => k_is)
    (case a10 => k_is)
    (case l10 => k_is)
    (case c10 => k_is)
    (case k10 => k_is)
    (case a11 => k_is)
    (case l11 => k_is)
    (case c11 => k_is)
    (case k11 => k_is)
    (case a12 => k_is)
    (case l12 => k_is)
    (case c12 => k_is)
    (case k12 => k_is)
    (case a13 => k_is)
    (case l13 => k_is)
    (case c13 => k_is)
    (case k13 => k_is)
    (case a14 => k_is)
    (case l14 => k_is)
    (case c14 => k_is)
    (case k14 => k_is)
    (case pg => k_is)
    (case hd => k_is)
    (case po => k_is)
    (case sa => k_is)
    (case mk => k_is)
    (case kc => k_is)
    (case nR => k_is)
    (case nT => k_is)
    (case nN => k_is)
    (case nL => k_is)
    (case nO => k_is)
    (case zLen => k_is)
    (case zList => k_is)
    (case zAll => k_is)
    (case zRange => k_is)
    (case zIsi => k_is)
    (case zInt => k_is)
    (case zBool => k_is)
    (case zTuple => k_is)
