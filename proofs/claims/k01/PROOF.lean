import PyProof.Rows.All
import Wide.All
import OpenK.AllK
import Wide.FinOn
import KE.KStateDown
import HandS.ForMost
import HandS.Words
import HandS.Defaults
import HandS.Head0
import HandS.Head1
import HandS.Head2
import HandS.HeadEnd
import HandS.HeadHook1
import HandS.HeadHook2
import HandS.HeadHook4
import HandS.Evl
import HandS.Text
import HandS.Walk
import HandS.IsInst
import PySem.Challenge.RW_lateclasses_k01_names_and_types
set_option Elab.async false
set_option linter.all false
set_option maxRecDepth 100000
set_option maxHeartbeats 0
namespace K01
open PySem PySem.Spec PyProof.Rows L2
abbrev RW : PySem.W.OpenLaw := PySem.Challenge.rw_lateclasses_k01_names_and_types
def top (i : Nat) : Stmt := PySem.Challenge.pw_lateclasses_k01_names_and_types.main.body.getD i (.Pass ⟨0, 0, 0, 0⟩)
def dfn (x : Str) (i : Nat) : He.DefD := ⟨(x, none), x, x, defArgs (top i), defBody (top i), defScope (top i), [], []⟩
def fn : List He.DefD := [dfn "is_name" 4, dfn "element_of" 5, dfn "is_type" 6, dfn "_law_source" 8, dfn "_law_draw" 9, dfn "_law_is_name" 10, dfn "_law_text" 11, dfn "law" 12]
def fa : List He.Fa := [.str "LETTERS" "abcdefghijklmnopqrstuvwxyz", .glo "TOP", .glo "is_name", .glo "element_of", .glo "is_type", .glo "_law_source", .glo "_law_draw", .glo "_law_is_name", .glo "_law_text", .glo "law",
  .free "isinstance", .free "len", .free "all", .free "str", .free "max", .free "min", .free "int", .free "range", .free "tuple"]
def ex (K : PySem.W.Frag) : Bool := He.tupB K "TOP" [.str "", .str "top"]
abbrev R : PySem.W.OpenRow := PySem.W.OpenLaw.row RW
abbrev hk : PySem.W.Hook := He.hookX 4 fa fn [] [] ex
def ob (s : PySem.W.SharedT) : He.AlX := He.obsX 4 fa fn [] [] ex (HandSHeadRun.getT s)
theorem ob_eq (s : PySem.W.SharedT) : ob s = hk.obs s.abs := He.obsX_eq (HandSHeadRun.getT_eq s)
def loose : List PySem.Str := ["LETTERS", "TOP_NAME", "TOP", "is_name", "element_of", "is_type", "_law_source", "_law_draw", "_law_is_name", "_law_text"]
theorem run (w : World) : HandSHeadRun.RunEq R (PySem.W.view R.prog [12]) hk ob 600 loose w := by
  intro os
  kernel_rfl
end K01
set_option Elab.async false
set_option linter.all false
set_option maxRecDepth 100000
set_option maxHeartbeats 0
namespace K01
open PySem PySem.Spec PyProof.Rows L2
abbrev FnP (K : PySem.W.Frag) (x : Str) (st : Stmt) (f : Addr) (fd : FuncData) : Prop := FunD K x x (defArgs st) (defBody st) (defScope st) [] [] f fd
/-- the globals that stay free -/
structure Txt (K : PySem.W.Frag) (mg : Str → Option Value) : Prop where
  isi : mg "isinstance" = none
  len : mg "len" = none
  all : mg "all" = none
  str : mg "str" = none
  max : mg "max" = none
  min : mg "min" = none
  int : mg "int" = none
  rng : mg "range" = none
  tup : mg "tuple" = none
abbrev sSource : Stmt := top 8
abbrev sDraw : Stmt := top 9
abbrev nSource : List Str := ["_law_script", "_law_turn", "_law_cell", "_law_number", "_law_seed"]
abbrev nDraw : List Str := ["_law_source_here", "_law_amount", "_law_digit"]
def rS : Int := 2147483647
/-- what a source holds -/
def Src (H : Hp) (p : Addr) : Prop := ∃ N S : Int, H p = some (.lst [.int N, .int S]) ∧ 0 ≤ N ∧ 0 ≤ S ∧ S < 2147483647
def spSource (K : PySem.W.Frag) : Sp := fun vs H Q _ => ∃ (a : Addr) (ns : List Int) (t : Int), vs = [.ref a, .int t] ∧ SqL K H a (ns.map V.int) ∧ 0 ≤ t ∧ t < 100 ∧
  ∀ p N S, H p = none → 0 ≤ N → 0 ≤ S → S < 2147483647 → Q (.ref p) (upd H p (.lst [.int N, .int S]))
def spDraw : Sp := fun vs H Q _ => ∃ (p : Addr) (N S m : Int), vs = [.ref p, .int m] ∧ H p = some (.lst [.int N, .int S]) ∧ 0 ≤ N ∧ 0 ≤ S ∧ S < 2147483647 ∧ 0 < m ∧ m < 1073741824 ∧
  ∀ d N' S', 0 ≤ d → d < m → 0 ≤ N' → 0 ≤ S' → S' < 2147483647 → Q (.int d) (upd H p (.lst [.int N', .int S']))
section
variable {P : Program} {w : World} {K : PySem.W.Frag} {mg : Str → Option Value} {base : Heap} {f : Addr} {fd : FuncData}
theorem scSource : FnScope nSource ["_law_script", "_law_turn"] (defScope sSource) := ⟨rfl, rfl, rfl, by decide +kernel, rfl, by decide +kernel, by decide +kernel⟩
theorem scDraw : FnScope nDraw ["_law_source_here", "_law_amount"] (defScope sDraw) := ⟨rfl, rfl, rfl, by decide +kernel, rfl, by decide +kernel, by decide +kernel⟩
theorem boot_len : bootBuiltins "len" = some (.builtin "len") := by kernel_rfl
theorem boot_max : bootBuiltins "max" = some (.builtin "max") := by kernel_rfl
theorem boot_int : bootBuiltins "int" = some (.type "int") := by kernel_rfl
theorem atI_int {ns : List Int} {t : Int} (h0 : 0 ≤ t) (h1 : t < (ns.map V.int).length) : ∃ c, L2.atI (ns.map V.int) t = some (.int c) := by
  obtain ⟨k, rfl⟩ := Int.eq_ofNat_of_zero_le h0
  have hk : k < ns.length := by rw [List.length_map] at h1; exact Int.ofNat_lt.mp h1
  exact ⟨ns[k], atI_nat (by rw [List.getElem?_map, List.getElem?_eq_getElem hk]; rfl)⟩
theorem two_ok : 2 ≤ sizeLine := by rw [sizeLine_eq]; decide
theorem ok_source (F : FnP K "_law_source" sSource f fd) (T : Txt K mg) : FnOk P w K mg base CX0 1 f fd ["_law_script", "_law_turn"] (spSource K) := by
  refine F.ok scSource (fun vs H Q E h => ?_) (fun cdv A outer s H vs Q E hr h => ?_)
  · obtain ⟨a, ns, t, rfl, _⟩ := h
    rfl
  · obtain ⟨a, ns, t, rfl, hS, h0, h1, hQ⟩ := h
    refine ⟨_, PSs.nox (pss_cons (ps_set (i := 2) scSource.nd rfl (Or.inl rfl) pe_int)
      (Evl.pss_cut (ps_if (pt_cmpR op_lt (pv 1) (pe_callB call_len rfl T.len boot_len (pa_cons (pv 0) pa_nil)) (nomark _)) (pss_one (ps_set (i := 2) scSource.nd rfl (Or.inl rfl) (pe_ix ix_list (pv 0) (pv 1) (fun _ _ => rfl)))) pss_nil)
      (pss_cons (ps_set (i := 3) scSource.nd rfl (Or.inl rfl) (pe_callB (call_max2 rfl) rfl T.max boot_max (pa_cons (pv 2) (pa_cons (pe_op op_sub (pe_un un_neg pe_int) (pv 2)) pa_nil))))
      (pss_cons (ps_set (i := 4) scSource.nd rfl (Or.inl rfl) (pe_op op_mod (pe_callTy call_int1 rfl T.int boot_int (pa_cons (pe_op op_add (pe_op op_add (pe_op op_mul (pe_op op_mod (pe_callTy call_int1 rfl T.int boot_int (pa_cons (pv 3) pa_nil)) pe_int) pe_int) (pe_op op_mul pe_int (pv 1))) pe_int) pa_nil)) pe_int))
      (Evl.pss_cut (ps_if (pt_cmpR op_lt (pv 3) (pe_op op_pow pe_int pe_int) (nomark _)) (pss_one (ps_set (i := 3) scSource.nd rfl (Or.inl rfl) pe_int)) pss_nil)
      (pss_one (ps_ret (pe_lst (pa_cons (pv 3) (pa_cons (pv 4) pa_nil)))))))))), ?_⟩
    refine ⟨fun σ' H' => ∃ c : Int, σ' = [some (.ref a), some (.int t), some (.int c), none, none] ∧ H' = H, ?_, ?_⟩
    · refine ⟨_, rfl, _, rfl, _, _, rfl, Or.inl ⟨_, hS, rfl⟩, _, _, rfl, rfl, _, rfl, ?_⟩
      refine ite2 (fun hlt => ?_) (fun _ => ⟨0, rfl, rfl⟩)
      obtain ⟨c, hc⟩ := atI_int h0 (of_decide_eq_true hlt)
      exact ⟨_, rfl, _, rfl, a, _, t, .int c, rfl, rfl, hS, hc, c, rfl, rfl⟩
    · rintro σ' H' ⟨c, rfl, rfl⟩
      refine ⟨_, rfl, _, rfl, _, rfl, _, _, rfl, rfl, _, _, rfl, ?_⟩
      have hN : 0 ≤ (if -1 - c > c then -1 - c else c) := by split <;> omega
      generalize (if -1 - c > c then -1 - c else c) = N at hN
      refine ⟨_, rfl, Or.inl ⟨_, rfl, _, _, rfl, rfl, (by decide : (0 : Int) < 2147483629), _, _, rfl, rfl, Or.inr ⟨by decide, by decide⟩, _, rfl, _, _, rfl, rfl, Or.inl ⟨by decide, by decide⟩, _, _, rfl, rfl, _, _, rfl, rfl, Or.inl ⟨_, rfl, _, _, rfl, rfl, (by decide : (0 : Int) < 2147483647), ?_⟩⟩⟩
      have hS1 : 0 ≤ (N % 2147483629 * 16807 + 104729 * t + 11) % 2147483647 := Int.emod_nonneg _ (by decide)
      have hS2 : (N % 2147483629 * 16807 + 104729 * t + 11) % 2147483647 < 2147483647 := Int.emod_lt_of_pos _ (by decide)
      refine ⟨fun σ' H1 => ∃ M S : Int, 0 ≤ M ∧ 0 ≤ S ∧ S < 2147483647 ∧ σ' = [some (.ref a), some (.int t), some (.int c), some (.int M), some (.int S)] ∧ H1 = H', ?_, ?_⟩
      · refine ⟨_, rfl, _, _, rfl, rfl, ⟨by decide, by decide, by decide⟩, _, _, rfl, rfl, _, rfl, ?_⟩
        exact ite2 (fun _ => ⟨0, _, Int.le_refl _, hS1, hS2, rfl, rfl⟩) (fun _ => ⟨N, _, hN, hS1, hS2, rfl, rfl⟩)
      · rintro σ' H1 ⟨M, S, hM, q1, q2, rfl, rfl⟩
        exact ⟨_, rfl, _, rfl, two_ok, fun p hp => hQ p M S hp hM q1 q2⟩
theorem ok_draw (F : FnP K "_law_draw" sDraw f fd) (T : Txt K mg) : FnOk P w K mg base CX0 1 f fd ["_law_source_here", "_law_amount"] spDraw := by
  refine F.ok scDraw (fun vs H Q E h => ?_) (fun cdv A outer s H vs Q E hr h => ?_)
  · obtain ⟨p, N, S, m, rfl, _⟩ := h
    rfl
  · obtain ⟨p, N, S, m, rfl, hp, hN, hS1, hS2, hm1, hm2, hQ⟩ := h
    refine ⟨_, PSs.nox (pss_cons (ps_if (pt_cmpR op_gt (pe_ix ix_list (pv 0) pe_int (fun _ _ => rfl)) pe_int (nomark _))
        (pss_cons (ps_set (i := 2) scDraw.nd rfl (Or.inl rfl) (pe_op op_mod (pe_callTy call_int1 rfl T.int boot_int (pa_cons (pe_ix ix_list (pv 0) pe_int (fun _ _ => rfl)) pa_nil)) (pv 1)))
        (pss_cons (ps_asg (pe_op op_fdiv (pe_ix ix_list (pv 0) pe_int (fun _ _ => rfl)) (pv 1)) (pg_sub (pv 0) pe_int set_list))
        (pss_one (ps_ret (pv 2))))) pss_nil)
      (pss_cons (ps_asg (pe_op op_mod (pe_callTy call_int1 rfl T.int boot_int (pa_cons (pe_op op_add (pe_op op_mul (pe_ix ix_list (pv 0) pe_int (fun _ _ => rfl)) pe_int) pe_int) pa_nil)) pe_int) (pg_sub (pv 0) pe_int set_list))
      (pss_one (ps_ret (pe_op op_mod (pe_callTy call_int1 rfl T.int boot_int (pa_cons (pe_op op_fdiv (pe_op op_mod (pe_callTy call_int1 rfl T.int boot_int (pa_cons (pe_op op_mul (pe_ix ix_list (pv 0) pe_int (fun _ _ => rfl)) (pe_ix ix_list (pv 0) pe_int (fun _ _ => rfl))) pa_nil)) pe_int) pe_int) pa_nil)) (pv 1)))))), ?_⟩
    have hL : SqL K H p [.int N, .int S] := SqL.of hp
    refine ⟨_, rfl, p, _, 0, .int N, rfl, rfl, hL, rfl, _, _, rfl, rfl, _, rfl, ?_⟩
    refine ite2 (fun h0 => ?_) (fun _ => ?_)
    · refine ⟨_, rfl, p, _, 0, .int N, rfl, rfl, hL, rfl, Or.inl ⟨_, rfl, _, rfl, _, _, rfl, rfl, hm1, ?_⟩⟩
      refine ⟨_, rfl, p, _, 0, .int N, rfl, rfl, hL, rfl, _, rfl, _, _, rfl, rfl, ⟨hm1, hm2⟩, _, rfl, p, _, 0, 0, rfl, rfl, hp, rfl, _, rfl, ?_⟩
      exact hQ _ _ _ (Int.emod_nonneg _ (Int.ne_of_gt hm1)) (Int.emod_lt_of_pos _ hm1) (Int.ediv_nonneg hN (Int.le_of_lt hm1)) hS1 hS2
    · have e1 : 0 ≤ (S * 48271 + 11) % 2147483647 := Int.emod_nonneg _ (by decide)
      have e2 : (S * 48271 + 11) % 2147483647 < 2147483647 := Int.emod_lt_of_pos _ (by decide)
      refine ⟨_, rfl, p, _, 1, .int S, rfl, rfl, hL, rfl, _, _, rfl, rfl, Or.inr ⟨by decide, by decide⟩, _, _, rfl, rfl, Or.inl ⟨_, rfl, _, _, rfl, rfl, (by decide : (0 : Int) < 2147483647), ?_⟩⟩
      refine ⟨_, rfl, p, _, 1, 1, rfl, rfl, hp, rfl, ?_⟩
      have hL2 : SqL K (upd H p (.lst [.int N, .int ((S * 48271 + 11) % 2147483647)])) p [.int N, .int ((S * 48271 + 11) % 2147483647)] := SqL.of upd_same
      refine ⟨_, rfl, p, _, 1, .int ((S * 48271 + 11) % 2147483647), rfl, rfl, hL2, rfl, _, rfl, p, _, 1, .int ((S * 48271 + 11) % 2147483647), rfl, rfl, hL2, rfl, _, _, rfl, rfl, Or.inl ⟨by omega, by omega⟩, Or.inl ⟨_, rfl, _, _, rfl, rfl, (by decide : (0 : Int) < 2147483629), _, _, rfl, rfl, ⟨by decide, by decide⟩, Or.inl ⟨_, rfl, _, rfl, _, _, rfl, rfl, hm1, ?_⟩⟩⟩
      exact hQ _ _ _ (Int.emod_nonneg _ (Int.ne_of_gt hm1)) (Int.emod_lt_of_pos _ hm1) hN e1 e2

/-! ### the package's functions -/
abbrev sName : Stmt := top 4
abbrev sElem : Stmt := top 5
abbrev sType : Stmt := top 6
abbrev sLName : Stmt := top 10
abbrev sText : Stmt := top 11
abbrev nName : List Str := ["value", "sign"]
abbrev nVal : List Str := ["value"]
def isNm (z : Str) : Bool := (decide (1 ≤ z.cps.toList.length) && decide (z.cps.toList.length ≤ 8)) && z.cps.toList.all fun c => decide (97 ≤ c) && decide (c ≤ 122)
/-- no text -/
def NoStr (K : PySem.W.Frag) (H : Hp) (x : V) : Prop := ∃ t, TyX K H x (.type t) ∧ kitB t "str" = some false
def spName (K : PySem.W.Frag) (f : Str → Bool) : Sp := fun vs H Q _ => ∃ x, vs = [x] ∧ ((∃ s : Str, x = .str s ∧ s.length ≤ 1000 ∧ PyData.strOk s = true ∧ ∀ H', Evl.Ex H H' → Q (.bl (f s)) H') ∨ (NoStr K H x ∧ Q (.bl false) H))
def lettersS : Str := "abcdefghijklmnopqrstuvwxyz"
theorem letters_iff (c : Nat) : decide (c ∈ lettersS.cps.toList) = (decide (97 ≤ c) && decide (c ≤ 122)) := by
  have e : lettersS.cps.toList = [97, 98, 99, 100, 101, 102, 103, 104, 105, 106, 107, 108, 109, 110, 111, 112, 113, 114, 115, 116, 117, 118, 119, 120, 121, 122] := by decide +kernel
  rw [e, Bool.eq_iff_iff]
  simp only [decide_eq_true_eq, Bool.and_eq_true, List.mem_cons, List.not_mem_nil, or_false]
  omega
theorem scName : FnScope nName ["value"] (defScope sName) := ⟨rfl, rfl, rfl, by decide +kernel, rfl, by decide +kernel, by decide +kernel⟩
theorem boot_isi : bootBuiltins "isinstance" = some (.builtin "isinstance") := by kernel_rfl
theorem boot_all : bootBuiltins "all" = some (.builtin "all") := by kernel_rfl
theorem boot_str : bootBuiltins "str" = some (.type "str") := by kernel_rfl
theorem kit_str : kitB "str" "str" = some true := by decide +kernel
theorem ok_name (F : FnP K "is_name" sName f fd) (T : Txt K mg) {tk : Tok} (gL : mg "LETTERS" = some (.str lettersS tk)) : FnOk P w K mg base CX0 1 f fd ["value"] (spName K isNm) := by
  refine F.ok scName (fun vs H Q E h => ?_) (fun cdv A outer s H vs Q E hr h => ?_)
  · obtain ⟨x, rfl, _⟩ := h
    rfl
  · obtain ⟨x, rfl, h⟩ := h
    refine ⟨_, PSs.nox (pss_cons (ps_if (PW.pt (pw_or (pt_not (pt_val (pe_callB call_isi rfl T.isi boot_isi (pa_cons (pv 0) (pa_cons (pe_bltn rfl T.str boot_str (v := .ty "str") rfl) pa_nil)))))
          (pw_or1 (pt_not (pt_chain op_le op_le pe_int (pe_callB call_len rfl T.len boot_len (pa_cons (pv 0) pa_nil)) pe_int))))) (pss_one (ps_ret pe_bl)) pss_nil)
        (pss_one (ps_ret (pe_callB (cr_all rfl) rfl T.all boot_all (pa_cons (pe_lc (own := [("sign", 1)]) (g := gName 1) (tt := tYes) rfl scName.nd (pi_str (pv 0)) (blkOk_by (N := nName) (sc := defScope sName) (by decide +kernel))
          (fun _ _ _ _ _ => pg_name (i := 1) scName.nd rfl (Or.inl rfl)) (fun _ _ _ _ _ => pts_nil) (fun _ _ _ _ _ => pe_cmpR op_in_sign (pv 1) (pe_glob rfl gL (v := .str lettersS) ⟨tk, rfl⟩) (by rfl))) pa_nil))))), ?_⟩
    rcases h with ⟨z, rfl, hz, hk, hQ⟩ | ⟨⟨t, ty, kt⟩, hQ⟩
    · refine ⟨_, rfl, _, _, _, _, true, rfl, .ty "str", .base (.str z), kit_ty kit_str, _, rfl, ?_⟩
      have hz2 : z.length ≤ sizeLine := Nat.le_trans hz (by rw [sizeLine_eq]; decide)
      have hl : z.length = z.cps.toList.length := by simp [Str.length]
      refine ⟨_, rfl, _, _, rfl, ⟨hz2, rfl⟩, _, _, rfl, rfl, _, rfl, ?_⟩
      refine ite2 (fun h1 => ⟨_, _, rfl, rfl, _, rfl, ?_⟩) (fun h1 => ⟨_, rfl, ?_⟩)
      · have h1' : 1 ≤ z.cps.toList.length := by
          have := of_decide_eq_true h1
          omega
        by_cases h2 : z.cps.toList.length ≤ 8
        · have e2 : decide ((z.length : Int) ≤ 8) = true := decide_eq_true (by omega)
          show (if (!decide ((z.length : Int) ≤ 8)) = true then _ else _)
          rw [e2]
          refine iteF ?_
          refine ⟨_, rfl, _, rfl, fun D hD => ?_⟩
          refine lc_it (walk_str (z := z)) (fun i H' => Evl.Ex H H' ∧ H D = none ∧ H' D = some (.lst ((z.cps.toList.take i).map fun c => .bl (decide (97 ≤ c) && decide (c ≤ 122))))) ⟨Evl.Ex.new hD, hD, upd_same⟩ (fun _ _ _ _ => trivial) ?_ ?_
          · rintro i x H2 H3 hi ⟨e, _, hd⟩ ⟨rfl, c, hc, rfl⟩
            refine ⟨rfl, ?_⟩
            unfold tYes
            dsimp only
            rw [if_pos rfl]
            refine ⟨_, rfl, c, lettersS, rfl, rfl, _, hd, ?_, e.mut hD, hD, ?_⟩
            · rw [List.length_map, List.length_take]
              have : z.cps.toList.length < sizeLine := by rw [sizeLine_eq]; omega
              omega
            · have hc' : z.cps.toList[i]? = some c := by simpa using hc
              have hi' : i < z.cps.toList.length := by simpa using hi
              rw [upd_same, letters_iff, List.take_succ, hc']
              simp
          · rintro H2 ⟨e, _, hd⟩
            refine ⟨D, z.cps.toList.map fun c => decide (97 ≤ c) && decide (c ≤ 122), rfl, ?_, ?_⟩
            · refine SqL.of ?_
              rw [hd, List.take_of_length_le (by simp), List.map_map]
              rfl
            · have q := hQ H2 e
              have e3 : isNm z = (z.cps.toList.map fun c => decide (97 ≤ c) && decide (c ≤ 122)).all id := by
                unfold isNm
                rw [decide_eq_true h1', decide_eq_true h2, List.all_map]
                simp [Function.comp_def]
              rw [e3] at q
              exact q
        · have e2 : decide ((z.length : Int) ≤ 8) = false := decide_eq_false (by omega)
          show (if (!decide ((z.length : Int) ≤ 8)) = true then _ else _)
          rw [e2]
          refine iteT ?_
          have q := hQ H (Evl.Ex.refl H)
          have e3 : isNm z = false := by unfold isNm; rw [decide_eq_false h2]; simp
          rw [e3] at q
          exact q
      · have h1' : ¬ 1 ≤ z.cps.toList.length := by
          intro q
          apply h1
          exact decide_eq_true (by omega)
        have q := hQ H (Evl.Ex.refl H)
        have e3 : isNm z = false := by unfold isNm; rw [decide_eq_false h1']; simp
        rw [e3] at q
        exact q
    · refine ⟨_, rfl, _, _, _, _, false, rfl, .ty "str", ty, kit_ty kt, _, rfl, ?_⟩
      exact hQ

/-! ### kinds -/
def brk : Str := "[]"
def eb (z : Str) : Bool := Txt.endswith z brk
def c2 (z : Str) : Str := cutS z none (some (-2))
def nmOf (z : Str) : Str := if eb z = true then c2 z else z
theorem arr_iff (z : Str) : decide (V.str (cutS z (some (-2)) none) = V.str brk) = eb z := by
  have eb_eq : eb z = (decide (2 ≤ z.cps.toList.length) && decide (z.cps.toList.drop (z.cps.toList.length - 2) = brk.cps.toList)) := by
    have hl : z.length = z.cps.toList.length := by simp [Str.length]
    have hb : brk.length = 2 := by decide +kernel
    unfold eb Txt.endswith
    rw [PySem.StrLaws.subAt_eq, hb, hl, Nat.zero_add]
    by_cases h : 2 ≤ z.cps.toList.length
    · rw [List.take_of_length_le (by rw [List.length_drop]; omega), decide_eq_true h]
      rw [Bool.true_and, Bool.true_and, Bool.beq_eq_decide_eq]
    · rw [decide_eq_false h, Bool.false_and, Bool.false_and]
  have hcut : (cutS z (some (-2)) none).cps.toList = z.cps.toList.drop (z.cps.toList.length - 2) := by
    have hl : z.length = z.cps.toList.length := by simp [Str.length]
    unfold cutS
    show ((z.cps.toList.drop (HT.sIx z.length 0 (some (-2)))).take (HT.sIx z.length z.length none - HT.sIx z.length 0 (some (-2)))).toArray.toList = _
    have e1 : HT.sIx z.length 0 (some (-2)) = z.cps.toList.length - 2 := by
      unfold HT.sIx
      rw [hl]
      show (if (-2 : Int) < 0 then _ else _) = _
      rw [if_pos (by decide)]
      omega
    rw [e1, HT.sIx_none, hl]
    rw [List.take_of_length_le (by rw [List.length_drop]; omega)]
  rw [eb_eq, Bool.eq_iff_iff]
  simp only [decide_eq_true_eq, Bool.and_eq_true]
  constructor
  · intro h
    have h2 : (cutS z (some (-2)) none).cps.toList = brk.cps.toList := by rw [V.str.inj h]
    rw [hcut] at h2
    refine ⟨?_, h2⟩
    have h3 := congrArg List.length h2
    rw [List.length_drop] at h3
    have hb : brk.cps.toList.length = 2 := by decide +kernel
    omega
  · rintro ⟨_, h⟩
    rw [← hcut] at h
    exact congrArg V.str (Str.ext' (Array.toList_inj.mp h))
theorem nm_len (z : Str) (h : z.length ≤ 1000) : (nmOf z).length ≤ 1000 := by
  unfold nmOf
  split
  · exact Nat.le_trans (cutS_length z _ _) h
  · exact h
theorem cut_ok (z : Str) (lo hi : Option Int) (h : PyData.strOk z = true) : PyData.strOk (cutS z lo hi) = true := by
  unfold PyData.strOk at h ⊢
  rw [Array.all_eq_true_iff_forall_mem] at h ⊢
  intro c hc
  refine h c ?_
  have hc' : c ∈ ((z.cps.toList.drop (HT.sIx z.length 0 lo)).take (HT.sIx z.length z.length hi - HT.sIx z.length 0 lo)).toArray := hc
  rw [List.mem_toArray] at hc'
  exact Array.mem_toList_iff.mp (List.mem_of_mem_drop (List.mem_of_mem_take hc'))
theorem nm_ok (z : Str) (h : PyData.strOk z = true) : PyData.strOk (nmOf z) = true := by
  unfold nmOf
  split
  · exact cut_ok z _ _ h
  · exact h
theorem le_line {n : Nat} (h : n ≤ 1000) : n ≤ sizeLine := Nat.le_trans h (by rw [sizeLine_eq]; decide)
def spElem : Sp := fun vs H Q _ => ∃ z : Str, vs = [.str z] ∧ z.length ≤ 1000 ∧ Q (if eb z = true then .str (c2 z) else .non) H
theorem scElem : FnScope nVal ["value"] (defScope sElem) := ⟨rfl, rfl, rfl, by decide +kernel, rfl, by decide +kernel, by decide +kernel⟩
theorem scType : FnScope nVal ["value"] (defScope sType) := ⟨rfl, rfl, rfl, by decide +kernel, rfl, by decide +kernel, by decide +kernel⟩
theorem ok_elem (F : FnP K "element_of" sElem f fd) : FnOk P w K mg base CX0 1 f fd ["value"] spElem := by
  refine F.ok scElem (fun vs H Q E h => ?_) (fun cdv A outer s H vs Q E hr h => ?_)
  · obtain ⟨x, rfl, _⟩ := h
    rfl
  · obtain ⟨z, rfl, hz, hQ⟩ := h
    refine ⟨_, PSs.nox (pss_one (ps_ret (pe_ifExp (pt_val (pe_m1 PySem.F.slot_str_endswith PySem.F.type_str_endswith mt_endswith (pv 0) pe_str)) (pe_slice sl_str (pv 0) po_none (po_some (pe_un un_neg pe_int))) pe_non))), ?_⟩
    refine ⟨_, rfl, ⟨_, rfl⟩, _, brk, rfl, rfl, _, rfl, ?_⟩
    refine ite2 (fun h => ?_) (fun h => ?_)
    · rw [if_pos (show eb z = true from h)] at hQ
      exact ⟨_, rfl, _, rfl, _, rfl, z, rfl, le_line hz, hQ⟩
    · rw [if_neg (show ¬ eb z = true from h)] at hQ
      exact hQ

theorem ok_type (F : FnP K "is_type" sType f fd) (T : Txt K mg) {fN : Addr} {fdN : FuncData} (FN : FnP K "is_name" sName fN fdN) (gN : mg "is_name" = some (.ref fN)) {tk : Tok} (gL : mg "LETTERS" = some (.str lettersS tk)) :
    FnOk P w K mg base CX0 2 f fd ["value"] (spName K fun z => isNm (nmOf z)) := by
  have GN : FnOk P w K mg base CX0 1 fN fdN ["value"] (spName K isNm) := ok_name FN T gL
  have bN : Binds K fdN ["value"] [] := FN.bindsN fun _ _ _ _ _ _ us hl => match us, hl with | [_], _ => rfl
  refine F.ok scType (fun vs H Q E h => ?_) (fun cdv A outer s H vs Q E hr h => ?_)
  · obtain ⟨x, rfl, _⟩ := h
    rfl
  · obtain ⟨x, rfl, h⟩ := h
    refine ⟨_, PSs.nox (pss_cons (ps_if (pt_not (pt_val (pe_callB call_isi rfl T.isi boot_isi (pa_cons (pv 0) (pa_cons (pe_bltn rfl T.str boot_str (v := .ty "str") rfl) pa_nil))))) (pss_one (ps_ret pe_bl)) pss_nil)
      (pss_one (ps_ret (pe_call GN hr rfl gN FN.kp bN .nil pass0 (pa_cons (pe_ifExp (pt_val (pe_m1 PySem.F.slot_str_endswith PySem.F.type_str_endswith mt_endswith (pv 0) pe_str)) (pe_slice sl_str (pv 0) po_none (po_some (pe_un un_neg pe_int))) (pv 0)) pa_nil))))), ?_⟩
    rcases h with ⟨z, rfl, hz, hk, hQ⟩ | ⟨⟨t, ty, kt⟩, hQ⟩
    · refine ⟨_, rfl, _, _, _, _, true, rfl, .ty "str", .base (.str z), kit_ty kit_str, _, rfl, ?_⟩
      refine ⟨_, rfl, ⟨_, rfl⟩, _, brk, rfl, rfl, _, rfl, ?_⟩
      have q : nmOf z = if eb z = true then c2 z else z := rfl
      refine ite2 (fun h => ?_) (fun h => ?_)
      · have q2 : nmOf z = c2 z := by rw [q, if_pos (show eb z = true from h)]
        refine ⟨_, rfl, _, rfl, _, rfl, z, rfl, le_line hz, _, rfl, .inl ⟨_, rfl, Nat.le_trans (cutS_length z _ _) hz, cut_ok z _ _ hk, fun H' e => ?_⟩⟩
        have q3 : Q (.bl (isNm (nmOf z))) H' := hQ H' e
        rw [q2] at q3
        exact q3
      · have q2 : nmOf z = z := by rw [q, if_neg (show ¬ eb z = true from h)]
        refine ⟨_, rfl, _, rfl, .inl ⟨_, rfl, hz, hk, fun H' e => ?_⟩⟩
        have q3 : Q (.bl (isNm (nmOf z))) H' := hQ H' e
        rw [q2] at q3
        exact q3
    · refine ⟨_, rfl, _, _, _, _, false, rfl, .ty "str", ty, kit_ty kt, _, rfl, ?_⟩
      exact hQ

/-! ### the law's own reading of a name -/
abbrev nLName : List Str := ["_law_thing", "_law_sign"]
theorem scLName : FnScope nLName ["_law_thing"] (defScope sLName) := ⟨rfl, rfl, rfl, by decide +kernel, rfl, by decide +kernel, by decide +kernel⟩
theorem strs_dp {K : PySem.W.Frag} {H : Hp} : ∀ l : List Nat, DpAll K H (l.map fun c => V.str ⟨#[c]⟩) (l.map fun c => PyData.str ⟨#[c]⟩)
  | [] => .nil
  | c :: l => .cons (.str _) (strs_dp l)
theorem canLay_strs : ∀ l : List Nat, (∀ c ∈ l, c < 0x110000) → PyData.canLayAll0 (l.map fun c => PyData.str ⟨#[c]⟩) = true
  | [], _ => rfl
  | c :: l, h => by
    show (PyData.strOk ⟨#[c]⟩ && PyData.canLayAll0 (l.map fun c => PyData.str ⟨#[c]⟩)) = true
    rw [canLay_strs l fun d hd => h d (List.mem_cons_of_mem _ hd), Bool.and_true]
    have hc := h c List.mem_cons_self
    simp [PyData.strOk, hc]
theorem depth_strs : ∀ l : List Nat, PyData.depthAll (l.map fun c => PyData.str ⟨#[c]⟩) = 0
  | [] => rfl
  | c :: l => by
    have ih := depth_strs l
    simp only [List.map_cons, PyData.depthAll, PyData.depth, ih]
    try rfl
theorem shaped_strs (l : List Nat) (h : ∀ c ∈ l, c < 0x110000) : SeqAt.shaped (.list (l.map fun c => PyData.str ⟨#[c]⟩)) = true := by
  unfold SeqAt.shaped
  rw [show PyData.canLay0 (.list (l.map fun c => PyData.str ⟨#[c]⟩)) = PyData.canLayAll0 (l.map fun c => PyData.str ⟨#[c]⟩) from by unfold PyData.canLay0; rfl, canLay_strs l h]
  simp [PyData.depth, depth_strs]
theorem sgn_le (c : Nat) : decide (([c] : List Nat) < [97]) = decide (c < 97) := by
  rw [Bool.eq_iff_iff, decide_eq_true_eq, decide_eq_true_eq]
  constructor
  · intro h
    cases h with
    | rel h => exact h
    | cons h => cases h
  · exact fun h => .rel h
theorem sgn_ge (c : Nat) : decide (([122] : List Nat) < [c]) = decide (122 < c) := by
  rw [Bool.eq_iff_iff, decide_eq_true_eq, decide_eq_true_eq]
  constructor
  · intro h
    cases h with
    | rel h => exact h
    | cons h => cases h
  · exact fun h => .rel h
def okC (c : Nat) : Bool := decide (97 ≤ c) && decide (c ≤ 122)
theorem ok_lname (F : FnP K "_law_is_name" sLName f fd) (T : Txt K mg) : FnOk P w K mg base CX0 1 f fd ["_law_thing"] (spName K isNm) := by
  refine F.ok scLName (fun vs H Q E h => ?_) (fun cdv A outer s H vs Q E hr h => ?_)
  · obtain ⟨x, rfl, _⟩ := h
    rfl
  · obtain ⟨x, rfl, h⟩ := h
    refine ⟨_, PSs.nox (pss_cons (ps_if (PW.pt (pw_or (pt_not (pt_val (pe_callB call_isi rfl T.isi boot_isi (pa_cons (pv 0) (pa_cons (pe_bltn rfl T.str boot_str (v := .ty "str") rfl) pa_nil)))))
          (pw_or1 (pt_not (pt_chain op_le op_le pe_int (pe_callB call_len rfl T.len boot_len (pa_cons (pv 0) pa_nil)) pe_int))))) (pss_one (ps_ret pe_bl)) pss_nil)
        (pss_one (ps_ret (pe_cmpR (op_eqD hr.units) (pe_lc (own := [("_law_sign", 1)]) (g := gName 1) rfl scLName.nd (pi_str (pv 0)) (blkOk_by (N := nLName) (sc := defScope sLName) (by decide +kernel))
          (fun _ _ _ _ _ => pg_name (i := 1) scLName.nd rfl (Or.inl rfl)) (fun _ _ _ _ _ => pts_one (pt_not (pt_chain op_le_str op_le_str pe_str (pv 1) pe_str))) (fun _ _ _ _ _ => pv 1)) (pe_lst pa_nil) (nomark _))))), ?_⟩
    rcases h with ⟨z, rfl, hz, hk, hQ⟩ | ⟨⟨t, ty, kt⟩, hQ⟩
    · refine ⟨_, rfl, _, _, _, _, true, rfl, .ty "str", .base (.str z), kit_ty kit_str, _, rfl, ?_⟩
      have hz2 : z.length ≤ sizeLine := le_line hz
      have hl : z.length = z.cps.toList.length := by simp [Str.length]
      refine ⟨_, rfl, _, _, rfl, ⟨hz2, rfl⟩, _, _, rfl, rfl, _, rfl, ?_⟩
      refine ite2 (fun h1 => ⟨_, _, rfl, rfl, _, rfl, ?_⟩) (fun h1 => ⟨_, rfl, ?_⟩)
      · have h1' : 1 ≤ z.cps.toList.length := by
          have := of_decide_eq_true h1
          omega
        by_cases h2 : z.cps.toList.length ≤ 8
        · have e2 : decide ((z.length : Int) ≤ 8) = true := decide_eq_true (by omega)
          show (if (!decide ((z.length : Int) ≤ 8)) = true then _ else _)
          rw [e2]
          refine iteF ?_
          refine ⟨_, rfl, _, rfl, fun D hD => ?_⟩
          refine lc_it (walk_str (z := z)) (fun i H' => Evl.Ex H H' ∧ H D = none ∧ H' D = some (.lst (((z.cps.toList.take i).filter fun c => !okC c).map fun c => .str ⟨#[c]⟩))) ⟨Evl.Ex.new hD, hD, upd_same⟩ (fun _ _ _ _ => trivial) ?_ ?_
          · rintro i x H2 H3 hi ⟨e, _, hd⟩ ⟨rfl, c, hc, rfl⟩
            have hc' : z.cps.toList[i]? = some c := by simpa using hc
            refine ⟨rfl, ?_⟩
            refine ⟨_, rfl, _, _, rfl, rfl, _, rfl, ?_⟩
            have k1 : (!decide (([c] : List Nat) < [97])) = decide (97 ≤ c) := by rw [sgn_le, ← decide_not]; exact decide_eq_decide.mpr (by omega)
            have k2 : (!decide (([122] : List Nat) < [c])) = decide (c ≤ 122) := by rw [sgn_ge, ← decide_not]; exact decide_eq_decide.mpr (by omega)
            have keep : ∀ H4 : Hp, (H4 = if okC c = true then H3 else upd H3 D (.lst (((z.cps.toList.take i).filter fun c => !okC c).map (fun c => V.str ⟨#[c]⟩) ++ [.str ⟨#[c]⟩]))) → Evl.Ex H H4 ∧ H D = none ∧ H4 D = some (.lst (((z.cps.toList.take (i + 1)).filter fun c => !okC c).map fun c => .str ⟨#[c]⟩)) := by
              intro H4 e4
              rw [List.take_succ, hc', List.filter_append]
              subst e4
              by_cases hok : okC c = true
              · rw [if_pos hok]
                refine ⟨e, hD, ?_⟩
                rw [hd]
                simp [hok]
              · rw [if_neg hok]
                refine ⟨e.mut hD, hD, ?_⟩
                rw [upd_same]
                have : okC c = false := by simpa using hok
                simp [this]
            have hacc : (((z.cps.toList.take i).filter fun c => !okC c).map fun c => V.str ⟨#[c]⟩).length < sizeLine := by
              rw [List.length_map]
              have a1 := List.length_filter_le (fun c => !okC c) (z.cps.toList.take i)
              rw [List.length_take] at a1
              have : z.cps.toList.length < sizeLine := by rw [sizeLine_eq]; omega
              omega
            refine ite2 (fun q1 => ⟨_, _, rfl, rfl, _, rfl, ?_⟩) (fun q1 => ⟨_, rfl, ?_⟩)
            · have q1' : (!decide (([c] : List Nat) < [97])) = true := q1
              rw [k1] at q1'
              show (if (!(!decide (([122] : List Nat) < [c]))) = true then _ else _)
              rw [k2]
              have e0 : okC c = decide (c ≤ 122) := by unfold okC; rw [q1', Bool.true_and]
              by_cases hok : okC c = true
              · rw [← e0, hok]
                exact iteF (keep _ (if_pos hok).symm)
              · have hok' : okC c = false := by simpa using hok
                rw [← e0, hok']
                refine iteT ⟨_, rfl, _, hd, hacc, keep _ (if_neg hok).symm⟩
            · have q1' : ¬ (!decide (([c] : List Nat) < [97])) = true := q1
              rw [k1] at q1'
              have hok : ¬ okC c = true := by unfold okC; intro z; rw [Bool.and_eq_true] at z; exact q1' z.1
              show (if (!false) = true then _ else _)
              exact iteT ⟨_, rfl, _, hd, hacc, keep _ (if_neg hok).symm⟩
          · rintro H2 ⟨e, _, hd⟩
            have hlen : z.cps.size = z.cps.toList.length := by simp
            rw [hlen, List.take_length] at hd
            refine ⟨Nat.zero_le _, fun p hp => ⟨_, _, .lst (SqL.of (by rw [upd_ne (ne_of_none hd hp)]; exact hd)) (strs_dp _), .lst (SqL.of upd_same) .nil, shaped_strs _ (fun c hc => ?_), rfl, ?_⟩⟩
            · have hc2 : c ∈ z.cps.toList := (List.mem_filter.mp hc).1
              unfold PyData.strOk at hk
              rw [Array.all_eq_true_iff_forall_mem] at hk
              exact of_decide_eq_true (hk c (Array.mem_toList_iff.mp hc2))
            · have q := hQ _ (e.trans (Evl.Ex.new (o := .lst []) hp))
              have e3 : isNm z = PyData.eqv (.list ((z.cps.toList.filter fun c => !okC c).map fun c => PyData.str ⟨#[c]⟩)) (.list []) := by
                unfold isNm
                rw [decide_eq_true h1', decide_eq_true h2]
                cases hf : z.cps.toList.filter fun c => !okC c with
                | nil =>
                  show (true && true && _) = true
                  rw [Bool.true_and, Bool.true_and, List.all_eq_true]
                  intro c hc
                  have := (List.filter_eq_nil_iff.mp hf) c hc
                  have h3 : okC c = true := by simpa using this
                  exact h3
                | cons c l =>
                  show (true && true && _) = false
                  rw [Bool.true_and, Bool.true_and]
                  have hm : c ∈ z.cps.toList.filter fun c => !okC c := by rw [hf]; exact List.mem_cons_self
                  obtain ⟨m1, m2⟩ := List.mem_filter.mp hm
                  rw [Bool.eq_false_iff]
                  intro q
                  have q2 := (List.all_eq_true.mp q) c m1
                  have q3 : okC c = true := q2
                  rw [q3] at m2
                  cases m2
              rw [e3] at q
              exact q
        · have e2 : decide ((z.length : Int) ≤ 8) = false := decide_eq_false (by omega)
          show (if (!decide ((z.length : Int) ≤ 8)) = true then _ else _)
          rw [e2]
          refine iteT ?_
          have q := hQ H (Evl.Ex.refl H)
          have e3 : isNm z = false := by unfold isNm; rw [decide_eq_false h2]; simp
          rw [e3] at q
          exact q
      · have h1' : ¬ 1 ≤ z.cps.toList.length := by
          intro q
          apply h1
          exact decide_eq_true (by omega)
        have q := hQ H (Evl.Ex.refl H)
        have e3 : isNm z = false := by unfold isNm; rw [decide_eq_false h1']; simp
        rw [e3] at q
        exact q
    · refine ⟨_, rfl, _, _, _, _, false, rfl, .ty "str", ty, kit_ty kt, _, rfl, ?_⟩
      exact hQ

/-! ### a drawn text -/
abbrev nText : List Str := ["_law_source_here", "_law_signs", "_law_part"]
theorem scText : FnScope nText ["_law_source_here"] (defScope sText) := ⟨rfl, rfl, rfl, by decide +kernel, rfl, by decide +kernel, by decide +kernel⟩
/-- all but the source stands -/
def But (p : Addr) (H H' : Hp) : Prop := ∀ b o, b ≠ p → H b = some o → H' b = some o
theorem But.refl (p : Addr) (H : Hp) : But p H H := fun _ _ _ e => e
theorem But.trans {p : Addr} {H H1 H2 : Hp} (a : But p H H1) (b : But p H1 H2) : But p H H2 := fun c o n e => b c o n (a c o n e)
theorem But.new {p q : Addr} {H : Hp} {o : HO} (h : H q = none) : But p H (upd H q o) := fun b u _ e => by rw [upd_ne (ne_of_none e h)]; exact e
theorem But.put {p : Addr} {H : Hp} {o : HO} : But p H (upd H p o) := fun b u n e => by rw [upd_ne n]; exact e
theorem But.mut {p q : Addr} {H H' : Hp} {o : HO} (a : But p H H') (h : H q = none) : But p H (upd H' q o) := fun b u n e => by
  rw [upd_ne (ne_of_none e h)]
  exact a b u n e
theorem But.of {p : Addr} {H H' : Hp} (a : Evl.Ex H H') : But p H H' := fun b o _ e => a b o e
def spText : Sp := fun vs H Q _ => ∃ p, vs = [.ref p] ∧ Src H p ∧ ∀ z H', z.length ≤ 9 → PyData.strOk z = true → But p H H' → Src H' p → Q (.str z) H'
theorem join_sgn : ∀ l : List Nat, TL.joinL [] (l.map fun c => [c]) = l
  | [] => rfl
  | [c] => rfl
  | c :: d :: l => by
    have ih := join_sgn (d :: l)
    show [c] ++ ([] ++ TL.joinL [] ((d :: l).map fun c => [c])) = _
    rw [ih]
    rfl
theorem join_tl (l : List Nat) : (Txt.join ("" : Str) (l.map fun c => (⟨#[c]⟩ : Str))).cps.toList = l := by
  rw [TL.join_eq]
  have h := TL.tl_join ("" : Str) (l.map fun c => (⟨#[c]⟩ : Str))
  have e : (l.map fun c => (⟨#[c]⟩ : Str)).map TL.tl = l.map fun c => [c] := by rw [List.map_map]; rfl
  rw [e] at h
  have e2 : TL.tl ("" : Str) = [] := by decide +kernel
  rw [e2, join_sgn] at h
  exact h
def moreL : List Str := ["", "A", "[]", "[] ", "_0", "\n"]
def headS : Str := "abcxyz"
theorem more_ok (j : Nat) (h : j < 6) : ∃ m : Str, L2.atI (moreL.map V.str) (j : Int) = some (.str m) ∧ (headS ++ m).length ≤ 9 ∧ 0 < (headS ++ m).length ∧ PyData.strOk (headS ++ m) = true ∧ headS.length + m.length ≤ sizeLine := by
  have k : ∀ m ∈ moreL, (headS ++ m).length ≤ 9 ∧ 0 < (headS ++ m).length ∧ PyData.strOk (headS ++ m) = true ∧ headS.length + m.length ≤ 9 := by decide +kernel
  have hl : moreL.length = 6 := rfl
  have e : moreL[j]? = some (moreL[j]'(by rw [hl]; exact h)) := List.getElem?_eq_getElem _
  obtain ⟨a, b, c, d⟩ := k _ (List.mem_of_getElem? e)
  exact ⟨_, atI_nat (by rw [List.getElem?_map, e]; rfl), a, b, c, le_line (Nat.le_trans d (by decide))⟩
theorem ok_text (F : FnP K "_law_text" sText f fd) (T : Txt K mg) {fD : Addr} {fdD : FuncData} (FD : FnP K "_law_draw" sDraw fD fdD) (gD : mg "_law_draw" = some (.ref fD)) : FnOk P w K mg base CX0 2 f fd ["_law_source_here"] spText := by
  have GD : FnOk P w K mg base CX0 1 fD fdD ["_law_source_here", "_law_amount"] spDraw := ok_draw FD T
  have bD : Binds K fdD ["_law_source_here", "_law_amount"] [] := FD.bindsN fun _ _ _ _ _ _ us hl => match us, hl with | [_, _], _ => rfl
  refine F.ok scText (fun vs H Q E h => ?_) (fun cdv A outer s H vs Q E hr h => ?_)
  · obtain ⟨x, rfl, _⟩ := h
    rfl
  · obtain ⟨p, rfl, ⟨N, S, hp, hN, hS1, hS2⟩, hQ⟩ := h
    refine ⟨_, PSs.nox (pss_cons (ps_set (i := 1) scText.nd rfl (Or.inr rfl) (pe_op op_add_str pe_str (pe_ix ix_list (pe_lst (pa_cons pe_str (pa_cons pe_str (pa_cons pe_str (pa_cons pe_str (pa_cons pe_str (pa_cons pe_str pa_nil)))))))
          (pe_call GD hr rfl gD FD.kp bD .nil pass0 (pa_cons (pv 0) (pa_cons pe_int pa_nil))) (fun _ _ => rfl))))
      (pss_one (ps_ret (pe_join pe_str (pe_lc (own := [("_law_part", 2)]) (g := gName 2) (tt := tYes) rfl scText.nd (pi_range1 rfl T.rng (pa_cons (pe_call GD hr rfl gD FD.kp bD .nil pass0 (pa_cons (pv 0) (pa_cons pe_int pa_nil))) pa_nil)) (blkOk_by (N := nText) (sc := defScope sText) (by decide +kernel))
          (fun _ _ _ _ _ => pg_name (i := 2) scText.nd rfl (Or.inl rfl)) (fun _ _ _ _ _ => pts_nil) (fun _ _ _ _ _ => pe_ix ix_str (pv 1) (pe_call GD hr rfl gD FD.kp bD .nil pass0 (pa_cons (pv 0) (pa_cons (pe_callB call_len_str rfl T.len boot_len (pa_cons (pv 1) pa_nil)) pa_nil))) (fun _ _ => rfl))))))), ?_⟩
    refine ⟨le_line (by decide), fun q0 hq0 => ?_⟩
    have ne0 : q0 ≠ p := fun e => by rw [e, hp] at hq0; cases hq0
    have hp1 : (upd H q0 (.lst (moreL.map V.str))) p = some (.lst [.int N, .int S]) := by rw [upd_ne (Ne.symm ne0)]; exact hp
    refine ⟨_, rfl, p, N, S, 6, rfl, hp1, hN, hS1, hS2, by decide, by decide, fun d N' S' d0 d1 n0 s0 s1 => ?_⟩
    obtain ⟨j, rfl⟩ := Int.eq_ofNat_of_zero_le d0
    obtain ⟨m, hm, hz9, hz0, hok, hsz⟩ := more_ok j (by omega)
    refine ⟨q0, moreL.map V.str, (j : Int), .str m, rfl, rfl, SqL.of ?_, hm, headS, m, rfl, rfl, hsz, ?_⟩
    · rw [upd_ne ne0, upd_same]
      rfl
    have b1 : But p H (upd (upd H q0 (.lst (moreL.map V.str))) p (.lst [.int N', .int S'])) := (But.new hq0).trans But.put
    refine ⟨⟨_, rfl⟩, _, rfl, p, N', S', 10, rfl, upd_same, n0, s0, s1, by decide, by decide, fun d2 N2 S2 e0 e1 m0 t0 t1 => ?_⟩
    refine ⟨d2, rfl, by omega, by omega, fun D hD => ?_⟩
    have hDp : D ≠ p := fun e => by rw [e, upd_same] at hD; cases hD
    have b2 : But p H (upd (upd (upd H q0 (.lst (moreL.map V.str))) p (.lst [.int N', .int S'])) p (.lst [.int N2, .int S2])) := b1.trans But.put
    have hD0 : H D = none := by
      cases q : H D with
      | none => rfl
      | some o =>
        have hD1 : (upd (upd (upd H q0 (.lst (moreL.map V.str))) p (.lst [.int N', .int S'])) p (.lst [.int N2, .int S2])) D = none := hD
        rw [b2 D o hDp q] at hD1
        cases hD1
    refine lc_it walk_range (fun i H' => ∃ (cs : List Nat) (N S : Int), cs.length = i ∧ (∀ c ∈ cs, c < 0x110000) ∧ H' p = some (.lst [.int N, .int S]) ∧ 0 ≤ N ∧ 0 ≤ S ∧ S < 2147483647 ∧ But p H H' ∧ H' D = some (.lst (cs.map fun c => .str ⟨#[c]⟩)))
      ⟨[], N2, S2, rfl, (fun _ h => by cases h), by rw [upd_ne (Ne.symm hDp)]; exact upd_same, m0, t0, t1, b2.mut hD0, upd_same⟩ (fun _ _ _ _ => trivial) ?_ ?_
    · rintro i x H2 H3 hi ⟨cs, N3, S3, hcs, hc, hp3, k0, k1, k2, b3, hd⟩ ⟨rfl, rfl⟩
      refine ⟨rfl, ?_⟩
      unfold tYes
      dsimp only
      rw [if_pos rfl]
      have hlen : (headS ++ m).length = (headS ++ m).cps.toList.length := by simp [Str.length]
      refine ⟨_, rfl, _, rfl, _, rfl, _, rfl, le_line (by omega), p, N3, S3, _, rfl, hp3, k0, k1, k2, by omega, by omega, fun d3 N4 S4 f0 f1 g0 g1 g2 => ?_⟩
      obtain ⟨j3, rfl⟩ := Int.eq_ofNat_of_zero_le f0
      have hj : j3 < (headS ++ m).cps.toList.length := by omega
      refine ⟨headS ++ m, (j3 : Int), (headS ++ m).cps.toList[j3], rfl, rfl, le_line (by omega), atI_nat (List.getElem?_eq_getElem hj), ?_⟩
      refine ⟨_, by rw [upd_ne hDp]; exact hd, ?_, cs ++ [(headS ++ m).cps.toList[j3]], N4, S4, ?_, ?_, ?_, g0, g1, g2, (b3.trans But.put).mut hD0, ?_⟩
      · rw [List.length_map, hcs]
        have : (10 : Nat) < sizeLine := by rw [sizeLine_eq]; decide
        omega
      · rw [List.length_append, hcs]
        rfl
      · intro c hm2
        rcases List.mem_append.mp hm2 with q | q
        · exact hc c q
        · have e : c = (headS ++ m).cps.toList[j3] := by simpa using q
          have hk := hok
          unfold PyData.strOk at hk
          rw [Array.all_eq_true_iff_forall_mem] at hk
          rw [e]
          exact of_decide_eq_true (hk _ (Array.mem_toList_iff.mp (List.getElem_mem hj)))
      · rw [upd_ne (Ne.symm hDp), upd_same]
      · rw [upd_same, List.map_append]
        rfl
    · rintro H2 ⟨cs, N3, S3, hcs, hc, hp3, k0, k1, k2, b3, hd⟩
      have hl9 : cs.length ≤ 9 := by omega
      have hj := join_tl cs
      have hlen : (Txt.join ("" : Str) (cs.map fun c => (⟨#[c]⟩ : Str))).length = cs.length := by
        have : (Txt.join ("" : Str) (cs.map fun c => (⟨#[c]⟩ : Str))).length = (Txt.join ("" : Str) (cs.map fun c => (⟨#[c]⟩ : Str))).cps.toList.length := by simp [Str.length]
        rw [this, hj]
      have hsum : ∀ l : List Nat, ((l.map fun c => (⟨#[c]⟩ : Str)).map fun x => x.length).sum = l.length := by
        intro l
        induction l with
        | nil => rfl
        | cons c l ih =>
          rw [List.map_cons, List.map_cons, List.sum_cons, ih, List.length_cons]
          show 1 + l.length = l.length + 1
          omega
      refine ⟨_, D, cs.map fun c => (⟨#[c]⟩ : Str), rfl, rfl, .inl (SqL.of ?_), ?_, hQ _ _ (by rw [hlen]; exact hl9) ?_ b3 ⟨N3, S3, hp3, k0, k1, k2⟩⟩
      · rw [hd, List.map_map]
        rfl
      · rw [hsum, List.length_map]
        have : ("" : Str).length = 0 := by decide +kernel
        rw [this]
        omega
      · unfold PyData.strOk
        rw [Array.all_eq_true_iff_forall_mem]
        intro c hm2
        have : c ∈ cs := by rw [← hj]; exact Array.mem_toList_iff.mpr hm2
        exact decide_eq_true (hc c this)

/-! ### the law -/
abbrev sLaw : Stmt := top 12
abbrev nLaw : List Str := ["_law_script", "_law_odd", "_law_turn", "_law_source_here", "_law_texts", "_law_thing", "_law_is_array", "_law_due", "_law_part", "_law_text_here"]
theorem scLaw : FnScope nLaw ["_law_script"] (defScope sLaw) := ⟨rfl, rfl, rfl, by decide +kernel, rfl, by decide +kernel, by decide +kernel⟩
theorem boot_min : bootBuiltins "min" = some (.builtin "min") := by kernel_rfl
theorem boot_tuple : bootBuiltins "tuple" = some (.type "tuple") := by kernel_rfl
def spLaw (K : PySem.W.Frag) : Sp := fun vs H Q _ => ∃ (a : Addr) (ns : List Int), vs = [.ref a] ∧ SqL K H a (ns.map V.int) ∧ ns.length ≤ 63 ∧ ∀ H', Q (.bl true) H'
/-- the other functions of the text -/
structure Defs (K : PySem.W.Frag) (mg : Str → Option Value) : Prop where
  t : Txt K mg
  letters : ∃ tk, mg "LETTERS" = some (.str lettersS tk)
  top : ∃ (a : Addr) (o : Obj), mg "TOP" = some (.ref a) ∧ K.lookup a = some o ∧ o.cls = .type "tuple" ∧ ∀ H, SqT K H a [.str "", .str "top"]
  name : ∃ f fd, mg "is_name" = some (.ref f) ∧ FnP K "is_name" sName f fd
  elem : ∃ f fd, mg "element_of" = some (.ref f) ∧ FnP K "element_of" sElem f fd
  type : ∃ f fd, mg "is_type" = some (.ref f) ∧ FnP K "is_type" sType f fd
  source : ∃ f fd, mg "_law_source" = some (.ref f) ∧ FnP K "_law_source" sSource f fd
  draw : ∃ f fd, mg "_law_draw" = some (.ref f) ∧ FnP K "_law_draw" sDraw f fd
  lname : ∃ f fd, mg "_law_is_name" = some (.ref f) ∧ FnP K "_law_is_name" sLName f fd
  text : ∃ f fd, mg "_law_text" = some (.ref f) ∧ FnP K "_law_text" sText f fd
def oddV (a1 a2 a3 : Addr) : List V := [.non, .int 5, .bl true, .ref a1, .ref a2, .ref a3, .str "", .str "[]", .str "a[]", .str "a[][]", .str "a []", .str "abcdefgh", .str "abcdefghi", .str "abcdefgh[]"]
def Fx (H : Hp) (a1 a2 a3 : Addr) : Prop := H a1 = some (.tup []) ∧ H a2 = some (.lst [.str "a"]) ∧ H a3 = some (.dK [(.inr "a", .int 1)])
/-- the items: texts, not too long, or one of the other things -/
def It1 (a1 a2 a3 : Addr) (x : V) : Prop := (∃ z : Str, x = .str z ∧ z.length ≤ 20 ∧ PyData.strOk z = true) ∨ x = .non ∨ x = .int 5 ∨ x = .bl true ∨ x = .ref a1 ∨ x = .ref a2 ∨ x = .ref a3
theorem kit_no : kitB "NoneType" "str" = some false ∧ kitB "int" "str" = some false ∧ kitB "bool" "str" = some false ∧ kitB "tuple" "str" = some false ∧ kitB "list" "str" = some false ∧ kitB "dict" "str" = some false := by decide +kernel
theorem It1.no {a1 a2 a3 : Addr} {x : V} {H : Hp} (h : It1 a1 a2 a3 x) (f : Fx H a1 a2 a3) : (∃ z : Str, x = .str z ∧ z.length ≤ 20 ∧ PyData.strOk z = true) ∨ NoStr K H x := by
  obtain ⟨k1, k2, k3, k4, k5, k6⟩ := kit_no
  rcases h with h | rfl | rfl | rfl | rfl | rfl | rfl
  · exact .inl h
  · exact .inr ⟨_, .base .non, k1⟩
  · exact .inr ⟨_, .base (.int 5), k2⟩
  · exact .inr ⟨_, .base (.bl true), k3⟩
  · exact .inr ⟨_, .base (.tup f.1), k4⟩
  · exact .inr ⟨_, .base (.lst f.2.1), k5⟩
  · exact .inr ⟨_, .base (.dK f.2.2), k6⟩
theorem Fx.ex {a1 a2 a3 : Addr} {H H' : Hp} (f : Fx H a1 a2 a3) (e : Evl.Ex H H') : Fx H' a1 a2 a3 := ⟨e _ _ f.1, e _ _ f.2.1, e _ _ f.2.2⟩
theorem odd_it (a1 a2 a3 : Addr) : ∀ x ∈ oddV a1 a2 a3, It1 a1 a2 a3 x := by
  have k : ∀ z ∈ (["", "[]", "a[]", "a[][]", "a []", "abcdefgh", "abcdefghi", "abcdefgh[]"] : List Str), z.length ≤ 20 ∧ PyData.strOk z = true := by decide +kernel
  intro x hx
  unfold oddV at hx
  simp only [List.mem_cons, List.not_mem_nil, or_false] at hx
  rcases hx with h | h | h | h | h | h | h | h | h | h | h | h | h | h
  · exact .inr (.inl h)
  · exact .inr (.inr (.inl h))
  · exact .inr (.inr (.inr (.inl h)))
  · exact .inr (.inr (.inr (.inr (.inl h))))
  · exact .inr (.inr (.inr (.inr (.inr (.inl h)))))
  · exact .inr (.inr (.inr (.inr (.inr (.inr h)))))
  all_goals exact .inl ⟨_, h, k _ (by simp)⟩
def moreV : List V := [.str "abcdefghi[]", .str "top", .str "top[]", .str "a["]
theorem more_it (a1 a2 a3 : Addr) : ∀ x ∈ moreV, It1 a1 a2 a3 x := by
  have k : ∀ z ∈ (["abcdefghi[]", "top", "top[]", "a["] : List Str), z.length ≤ 20 ∧ PyData.strOk z = true := by decide +kernel
  intro x hx
  unfold moreV at hx
  simp only [List.mem_cons, List.not_mem_nil, or_false] at hx
  rcases hx with h | h | h | h
  all_goals exact .inl ⟨_, h, k _ (by simp)⟩
/-- drawn texts -/
def Tx (zs : List Str) : Prop := ∀ z ∈ zs, z.length ≤ 9 ∧ PyData.strOk z = true
theorem app_ok (z : Str) (h : z.length ≤ 9 ∧ PyData.strOk z = true) : (z ++ brk).length ≤ 20 ∧ PyData.strOk (z ++ brk) = true ∧ z.length + brk.length ≤ sizeLine := by
  have e : (z ++ brk).cps = z.cps ++ brk.cps := rfl
  have hb : brk.length = 2 := by decide +kernel
  have hl : (z ++ brk).length = z.length + brk.length := by
    show (z ++ brk).cps.size = z.cps.size + brk.cps.size
    rw [e, Array.size_append]
  refine ⟨by rw [hl, hb]; omega, ?_, le_line (by rw [hb]; omega)⟩
  unfold PyData.strOk
  rw [e, Array.all_append]
  have h2 : brk.cps.all (· < 0x110000) = true := by decide +kernel
  rw [h2, Bool.and_true]
  exact h.2
theorem ok_law (F : FnP K "law" sLaw f fd) (D : Defs K mg) : FnOk P w K mg base CX0 3 f fd ["_law_script"] (spLaw K) := by
  have T := D.t
  obtain ⟨tk, gL⟩ := D.letters
  obtain ⟨aT, oT, gT, lT, cT, hTop⟩ := D.top
  obtain ⟨fN, fdN, gN, FN⟩ := D.name
  obtain ⟨fE, fdE, gE, FE⟩ := D.elem
  obtain ⟨fY, fdY, gY, FY⟩ := D.type
  obtain ⟨fS, fdS, gS, FS⟩ := D.source
  obtain ⟨fD, fdD, gD, FD⟩ := D.draw
  obtain ⟨fL, fdL, gLN, FL⟩ := D.lname
  obtain ⟨fX, fdX, gX, FX⟩ := D.text
  have GN : FnOk P w K mg base CX0 2 fN fdN ["value"] (spName K isNm) := (ok_name FN T gL).mono (by decide)
  have GE : FnOk P w K mg base CX0 2 fE fdE ["value"] spElem := (ok_elem FE).mono (by decide)
  have GY : FnOk P w K mg base CX0 2 fY fdY ["value"] (spName K fun z => isNm (nmOf z)) := ok_type FY T FN gN gL
  have GS : FnOk P w K mg base CX0 2 fS fdS ["_law_script", "_law_turn"] (spSource K) := (ok_source FS T).mono (by decide)
  have GL : FnOk P w K mg base CX0 2 fL fdL ["_law_thing"] (spName K isNm) := (ok_lname FL T).mono (by decide)
  have GX : FnOk P w K mg base CX0 2 fX fdX ["_law_source_here"] spText := ok_text FX T FD gD
  have bN : Binds K fdN ["value"] [] := FN.bindsN fun _ _ _ _ _ _ us hl => match us, hl with | [_], _ => rfl
  have bE : Binds K fdE ["value"] [] := FE.bindsN fun _ _ _ _ _ _ us hl => match us, hl with | [_], _ => rfl
  have bY : Binds K fdY ["value"] [] := FY.bindsN fun _ _ _ _ _ _ us hl => match us, hl with | [_], _ => rfl
  have bS : Binds K fdS ["_law_script", "_law_turn"] [] := FS.bindsN fun _ _ _ _ _ _ us hl => match us, hl with | [_, _], _ => rfl
  have bL : Binds K fdL ["_law_thing"] [] := FL.bindsN fun _ _ _ _ _ _ us hl => match us, hl with | [_], _ => rfl
  have bX : Binds K fdX ["_law_source_here"] [] := FX.bindsN fun _ _ _ _ _ _ us hl => match us, hl with | [_], _ => rfl
  refine F.ok scLaw (fun vs H Q E h => ?_) (fun cdv A outer s H vs Q E hr h => ?_)
  · obtain ⟨a, ns, rfl, _⟩ := h
    rfl
  · obtain ⟨a, ns, rfl, hS, hns, hQ⟩ := h
    refine ⟨_, PSs.nox (Evl.pss_cut (ps_set (i := 1) scLaw.nd rfl (Or.inl rfl) (pe_lst (pa_cons pe_non (pa_cons pe_int (pa_cons pe_bl (pa_cons (pe_tup pa_nil) (pa_cons (pe_lst (pa_cons pe_str pa_nil)) (pa_cons (pe_disp (pps_cons pe_str pe_int pps_nil) rfl rfl (by simp) (by decide))
          (pa_cons pe_str (pa_cons pe_str (pa_cons pe_str (pa_cons pe_str (pa_cons pe_str (pa_cons pe_str (pa_cons pe_str (pa_cons pe_str pa_nil))))))))))))))))
      (pss_cons (ps_for PassesOwn.never rfl (pi_range1 rfl T.rng (pa_cons (pe_callB (call_max2 rfl) rfl T.max boot_max (pa_cons pe_int (pa_cons (pe_callB (call_min2 rfl) rfl T.min boot_min (pa_cons (pe_callB call_len rfl T.len boot_len (pa_cons (pv 0) pa_nil)) (pa_cons pe_int pa_nil))) pa_nil))) pa_nil)) (pg_name (i := 2) scLaw.nd rfl (Or.inl rfl))
        (pss_cons (ps_set (i := 3) scLaw.nd rfl (Or.inr rfl) (pe_call GS hr rfl gS FS.kp bS .nil pass0 (pa_cons (pv 0) (pa_cons (pv 2) pa_nil))))
        (Evl.pss_cut (ps_setLc (i := 4) (own := [("_law_part", 8)]) (g := gName 8) (tt := tYes) rfl scLaw.nd rfl rfl (sw_true rfl rfl rfl (by decide +kernel)) (pi_range1 rfl T.rng (pa_cons pe_int pa_nil)) (blkOk_by (N := nLaw) (sc := defScope sLaw) (by decide +kernel))
            (fun _ _ _ _ _ => pg_name (i := 8) scLaw.nd rfl (Or.inl rfl)) (fun _ _ _ _ _ => pts_nil) (fun _ _ _ _ _ => pe_call GX hr rfl gX FX.kp bX .nil pass0 (pa_cons (pv 3) pa_nil)))
        (pss_one (ps_for PassesOwn.never rfl (pi_list (pe_op op_cat (pe_op op_cat (pe_op op_cat (pv 1) (pe_lst (pa_cons pe_str (pa_cons pe_str (pa_cons pe_str (pa_cons pe_str pa_nil)))))) (pv 4))
              (pe_lc (own := [("_law_text_here", 9)]) (g := gName 9) (tt := tYes) rfl scLaw.nd (pi_list (pv 4)) (blkOk_by (N := nLaw) (sc := defScope sLaw) (by decide +kernel))
                (fun _ _ _ _ _ => pg_name (i := 9) scLaw.nd rfl (Or.inl rfl)) (fun _ _ _ _ _ => pts_nil) (fun _ _ _ _ _ => pe_op op_add_str (pv 9) pe_str))))
            (pg_name (i := 5) scLaw.nd rfl (Or.inl rfl))
            (pss_cons (ps_set (i := 6) scLaw.nd rfl (Or.inl rfl) (pe_and (pe_callB call_isi rfl T.isi boot_isi (pa_cons (pv 5) (pa_cons (pe_bltn rfl T.str boot_str (v := .ty "str") rfl) pa_nil))) (pe_one (pe_cmpR op_eq (pe_slice sl_str (pv 5) (po_some (pe_un un_neg pe_int)) po_none) pe_str (nomark _)))))
            (Evl.pss_cut (ps_set (i := 7) scLaw.nd rfl (Or.inl rfl) (pe_lst (pa_cons (pe_call GL hr rfl gLN FL.kp bL .nil pass0 (pa_cons (pv 5) pa_nil)) (pa_cons (pe_call GL hr rfl gLN FL.kp bL .nil pass0 (pa_cons (pe_ifExp (pt_val (pv 6)) (pe_slice sl_str (pv 5) po_none (po_some (pe_un un_neg pe_int))) (pv 5)) pa_nil)) pa_nil))))
            (pss_cons (ps_if (pt_cmpR (op_neD hr.units) (pe_lst (pa_cons (pe_call GN hr rfl gN FN.kp bN .nil pass0 (pa_cons (pv 5) pa_nil)) (pa_cons (pe_call GY hr rfl gY FY.kp bY .nil pass0 (pa_cons (pv 5) pa_nil)) pa_nil))) (pv 7) (nomark _)) (pss_one (ps_ret pe_bl)) pss_nil)
            (pss_one (ps_if (PW.pt (pw_and (pt_val (pe_ix ix_list (pv 7) pe_int (fun _ _ => rfl))) (pw_and1 (pt_cmpR op_ne (pe_call GE hr rfl gE FE.kp bE .nil pass0 (pa_cons (pv 5) pa_nil)) (pe_ifExp (pt_val (pv 6)) (pe_slice sl_str (pv 5) po_none (po_some (pe_un un_neg pe_int))) pe_non) (nomark _))))) (pss_one (ps_ret pe_bl)) pss_nil))))))))))
      (pss_one (ps_ret (pe_and (pe_cmpR (op_eqD hr.units) (pe_glob rfl gT (v := .ref aT) rfl) (pe_tup (pa_cons pe_str (pa_cons pe_str pa_nil))) (nomark _)) (pe_one (pe_callB call_isi rfl T.isi boot_isi (pa_cons (pe_glob rfl gT (v := .ref aT) rfl) (pa_cons (pe_bltn rfl T.tup boot_tuple (v := .ty "tuple") rfl) pa_nil))))))))), ?_⟩
    refine ⟨fun σ' H' => ∃ o a1 a2 a3, σ' = [some (.ref a), some (.ref o), none, none, none, none, none, none, none, none] ∧ H' o = some (.lst (oddV a1 a2 a3)) ∧ Fx H' a1 a2 a3 ∧ SqL K H' a (ns.map V.int), ?_, ?_⟩
    · refine ⟨Nat.zero_le _, fun p1 h1 => ⟨le_line (by decide), fun p2 h2 p3 h3 => ?_⟩⟩
      refine ⟨upd_same, [(.inr "a", .int 1)], rfl, by decide, le_line (Nat.le_of_ble_eq_true rfl), fun o ho => ⟨o, p1, p2, p3, rfl, upd_same, ?_, ?_⟩⟩
      · have e2 := Evl.Ex.new (o := .lst [.str "a"]) h2
        have e3 := (Evl.Ex.new (o := .dK []) h3).mut (o := .dK (mergeK [] [(.inr "a", .int 1)])) h3
        have e4 := Evl.Ex.new (o := .lst (oddV p1 p2 p3)) ho
        exact ⟨e4 _ _ (e3 _ _ (e2 _ _ upd_same)), e4 _ _ (e3 _ _ upd_same), e4 _ _ upd_same⟩
      · have e1 := Evl.Ex.new (o := .tup []) h1
        have e2 := Evl.Ex.new (o := .lst [.str "a"]) h2
        have e3 := (Evl.Ex.new (o := .dK []) h3).mut (o := .dK (mergeK [] [(.inr "a", .int 1)])) h3
        have e4 := Evl.Ex.new (o := .lst (oddV p1 p2 p3)) ho
        exact Evl.ex_l (((e1.trans e2).trans e3).trans e4) hS
    · rintro σ' H0 ⟨o, a1, a2, a3, rfl, ho, hF, hS0⟩
      have hmax : ∀ m : Int, m ≤ 20 → (if m > 1 then m else 1) ≤ 20 ∧ 1 ≤ (if m > 1 then m else 1) := fun m hm => by split <;> omega
      have hmin : (if (20 : Int) < ((ns.map V.int).length : Int) then (20 : Int) else ((ns.map V.int).length : Int)) ≤ 20 := by split <;> omega
      obtain ⟨hj1, hj2⟩ := hmax _ hmin
      refine ⟨_, rfl, _, _, rfl, Or.inl ⟨_, hS0, rfl⟩, _, _, rfl, _, _, rfl, _, rfl, ?_, ?_, ?_⟩
      · exact Int.le_trans (by decide) hj2
      · exact Int.lt_of_le_of_lt hj1 (by decide)
      generalize (if (if (20 : Int) < ((ns.map V.int).length : Int) then (20 : Int) else ((ns.map V.int).length : Int)) > 1 then (if (20 : Int) < ((ns.map V.int).length : Int) then (20 : Int) else ((ns.map V.int).length : Int)) else 1) = J at hj1 hj2
      refine for_it walk_range (fun i σ H => Evl.Ex H0 H ∧ ∃ v2 v3 v4 v5 v6 v7, σ = [some (.ref a), some (.ref o), v2, v3, v4, v5, v6, v7, none, none]) ⟨Evl.Ex.refl _, none, none, none, none, none, none, rfl⟩ (fun _ _ _ _ _ => trivial) ?_ ?_
      · rintro i x σ H1 H2 hi ⟨e1, v2, v3, v4, v5, v6, v7, rfl⟩ ⟨rfl, rfl⟩
        have hi20 : (i : Int) < 20 := by omega
        refine ⟨_, rfl, _, rfl, a, ns, 0 + (i : Int), rfl, Evl.ex_l e1 hS0, by omega, by omega, fun p N S hp hN hS1 hS2 => ?_⟩
        have hp0 : H0 p = none := Evl.fresh_back e1 hp
        have e2 : Evl.Ex H0 (upd H2 p (.lst [.int N, .int S])) := e1.trans (Evl.Ex.new hp)
        refine ⟨fun σ' H' => ∃ (D : Addr) (zs : List Str), σ' = [some (.ref a), some (.ref o), some (.int (0 + (i : Int))), some (.ref p), some (.ref D), v5, v6, v7, none, none] ∧ Evl.Ex H0 H' ∧ H' D = some (.lst (zs.map V.str)) ∧ Tx zs ∧ zs.length = 6, ?_, ?_⟩
        · refine ⟨6, rfl, by decide, by decide, fun D hD => ?_⟩
          have hDp : D ≠ p := fun q => by rw [q, upd_same] at hD; cases hD
          have hD0 : H0 D = none := Evl.fresh_back e2 hD
          refine lc_it walk_range (fun j H' => ∃ zs : List Str, zs.length = j ∧ Tx zs ∧ Evl.Ex H0 H' ∧ Src H' p ∧ H' D = some (.lst (zs.map V.str)))
            ⟨[], rfl, (fun _ h => by cases h), e2.mut hD0, ⟨N, S, by rw [upd_ne (Ne.symm hDp)]; exact upd_same, hN, hS1, hS2⟩, upd_same⟩ (fun _ _ _ _ => trivial) ?_ ?_
          · rintro j y H3 H4 hj ⟨zs, hzs, hT, e3, src, hd⟩ ⟨rfl, rfl⟩
            refine ⟨rfl, ?_⟩
            unfold tYes
            dsimp only
            rw [if_pos rfl]
            refine ⟨_, rfl, p, rfl, src, fun z H5 h9 hk bt src5 => ?_⟩
            have e5 : Evl.Ex H0 H5 := fun b ob eb => bt b ob (fun q => by rw [q, hp0] at eb; cases eb) (e3 b ob eb)
            refine ⟨_, bt _ _ hDp hd, ?_, zs ++ [z], ?_, ?_, e5.mut hD0, ?_, ?_⟩
            · rw [List.length_map, hzs]
              have : (6 : Nat) < sizeLine := by rw [sizeLine_eq]; decide
              omega
            · rw [List.length_append, hzs]
              rfl
            · intro y hy
              rcases List.mem_append.mp hy with q | q
              · exact hT y q
              · rw [List.mem_singleton.mp q]
                exact ⟨h9, hk⟩
            · obtain ⟨N5, S5, q, r⟩ := src5
              exact ⟨N5, S5, by rw [upd_ne (Ne.symm hDp)]; exact q, r⟩
            · rw [upd_same, List.map_append]
              rfl
          · rintro H3 ⟨zs, hzs, hT, e3, src, hd⟩
            exact ⟨D, zs, rfl, e3, hd, hT, hzs⟩
        · rintro σ' H3 ⟨D, zs, rfl, e3, hd, hT, hzs⟩
          refine ⟨_, rfl, le_line (Nat.le_of_ble_eq_true rfl), fun q1 hq1 => ?_⟩
          have f1 := Evl.Ex.new (o := .lst moreV) hq1
          refine ⟨o, q1, oddV a1 a2 a3, moreV, rfl, rfl, f1 _ _ (e3 _ _ ho), upd_same, le_line (Nat.le_of_ble_eq_true rfl), fun q2 hq2 => ?_⟩
          have f2 := Evl.Ex.new (o := .lst (oddV a1 a2 a3 ++ moreV)) hq2
          have hl18 : (oddV a1 a2 a3 ++ moreV).length = 18 := rfl
          refine ⟨_, rfl, q2, D, oddV a1 a2 a3 ++ moreV, zs.map V.str, rfl, rfl, upd_same, f2 _ _ (f1 _ _ hd), le_line (by rw [hl18, List.length_map]; omega), fun q3 hq3 => ?_⟩
          have f3 := Evl.Ex.new (o := .lst (oddV a1 a2 a3 ++ moreV ++ zs.map V.str)) hq3
          have hd3 := f3 _ _ (f2 _ _ (f1 _ _ hd))
          refine ⟨_, rfl, D, rfl, ⟨_, SqL.of hd3⟩, fun D2 hD2 => ?_⟩
          have hq3s : (upd (upd (upd H3 q1 (.lst moreV)) q2 (.lst (oddV a1 a2 a3 ++ moreV))) q3 (.lst (oddV a1 a2 a3 ++ moreV ++ zs.map V.str))) q3 = some (.lst (oddV a1 a2 a3 ++ moreV ++ zs.map V.str)) := upd_same
          have e4 : Evl.Ex H0 (upd (upd (upd H3 q1 (.lst moreV)) q2 (.lst (oddV a1 a2 a3 ++ moreV))) q3 (.lst (oddV a1 a2 a3 ++ moreV ++ zs.map V.str))) := ((e3.trans f1).trans f2).trans f3
          refine lc_it (walk_list (xs := zs.map V.str)) (fun j H' => Evl.Ex (upd (upd (upd H3 q1 (.lst moreV)) q2 (.lst (oddV a1 a2 a3 ++ moreV))) q3 (.lst (oddV a1 a2 a3 ++ moreV ++ zs.map V.str))) H' ∧ H' D2 = some (.lst ((zs.take j).map fun z => .str (z ++ brk))))
            ⟨Evl.Ex.new hD2, upd_same⟩ (fun j H' _ h => SqL.of (h.1 _ _ hd3)) ?_ ?_
          · rintro j y H5 H6 hj ⟨e5, hd5⟩ ⟨rfl, hy⟩
            have hj' : j < zs.length := by simpa using hj
            have ey : y = .str zs[j] := by
              rw [List.getElem?_map, List.getElem?_eq_getElem hj'] at hy
              exact (Option.some.inj hy).symm
            subst ey
            obtain ⟨k1, k2, k3⟩ := app_ok zs[j] (hT _ (List.getElem_mem hj'))
            refine ⟨rfl, ?_⟩
            unfold tYes
            dsimp only
            rw [if_pos rfl]
            refine ⟨_, rfl, zs[j], brk, rfl, rfl, k3, _, hd5, ?_, e5.mut hD2, ?_⟩
            · rw [List.length_map, List.length_take]
              have : (6 : Nat) < sizeLine := by rw [sizeLine_eq]; decide
              omega
            · rw [upd_same, List.take_succ, List.getElem?_eq_getElem hj', List.map_append]
              rfl
          · rintro H5 ⟨e5, hd5⟩
            rw [List.length_map, List.take_length] at hd5
            refine ⟨q3, D2, _, _, rfl, rfl, e5 _ _ hq3s, hd5, le_line (by rw [List.length_append, hl18, List.length_map, List.length_map]; omega), fun q4 hq4 => ?_⟩
            generalize hxs : (oddV a1 a2 a3 ++ moreV ++ zs.map V.str ++ zs.map fun z => V.str (z ++ brk)) = xs
            have hIt : ∀ x ∈ xs, It1 a1 a2 a3 x := by
              rw [← hxs]
              intro x hx
              rcases List.mem_append.mp hx with hx | hx
              · rcases List.mem_append.mp hx with hx | hx
                · rcases List.mem_append.mp hx with hx | hx
                  · exact odd_it a1 a2 a3 x hx
                  · exact more_it a1 a2 a3 x hx
                · obtain ⟨z, hz, rfl⟩ := List.mem_map.mp hx
                  exact .inl ⟨z, rfl, Nat.le_trans (hT z hz).1 (by decide), (hT z hz).2⟩
              · obtain ⟨z, hz, rfl⟩ := List.mem_map.mp hx
                obtain ⟨k1, k2, k3⟩ := app_ok z (hT z hz)
                exact .inl ⟨_, rfl, k1, k2⟩
            have e6 : Evl.Ex H0 (upd H5 q4 (.lst xs)) := (e4.trans e5).trans (Evl.Ex.new hq4)
            have hq4s : (upd H5 q4 (.lst xs)) q4 = some (.lst xs) := upd_same
            refine ⟨q4, rfl, ⟨_, SqL.of hq4s⟩, for_it (walk_list (xs := xs)) (fun j σ H => Evl.Ex (upd H5 q4 (.lst xs)) H ∧ ∃ v5 v6 v7, σ = [some (.ref a), some (.ref o), some (.int (0 + (i : Int))), some (.ref p), some (.ref D), v5, v6, v7, none, none])
              ⟨Evl.Ex.refl _, v5, v6, v7, rfl⟩ (fun j σ H _ h => SqL.of (h.1 _ _ hq4s)) ?_ ?_⟩
            · rintro j y σ H7 H8 hj ⟨e7, u5, u6, u7, rfl⟩ ⟨rfl, hy⟩
              have hF7 : Fx H8 a1 a2 a3 := hF.ex (e6.trans e7)
              rcases (hIt y (List.mem_of_getElem? hy)).no hF7 with ⟨z, rfl, hz20, hk⟩ | hno
              · have hz : z.length ≤ 1000 := Nat.le_trans hz20 (by decide)
                refine ⟨_, rfl, _, _, _, _, true, rfl, .ty "str", .base (.str z), kit_ty kit_str, true, rfl, ?_⟩
                rw [if_pos rfl]
                refine ⟨_, rfl, _, rfl, _, rfl, z, rfl, le_line hz, rfl, ?_⟩
                have ea : decide (V.str (cutS z (some (-2)) none) = V.str brk) = eb z := arr_iff z
                show Evl.tCut _ _ _ ([some (V.ref a), some (V.ref o), some (V.int (0 + (i : Int))), some (V.ref p), some (V.ref D), some (V.str z), some (V.bl (decide (V.str (cutS z (some (-2)) none) = V.str brk))), u7, none, none]) H8
                rw [ea]
                have hnm : nmOf z = if eb z = true then c2 z else z := rfl
                refine ⟨fun σ' H' => ∃ L : Addr, σ' = [some (V.ref a), some (V.ref o), some (V.int (0 + (i : Int))), some (V.ref p), some (V.ref D), some (V.str z), some (V.bl (eb z)), some (V.ref L), none, none] ∧ Evl.Ex H8 H' ∧ H' L = some (.lst [.bl (isNm z), .bl (isNm (nmOf z))]), ?_, ?_⟩
                · refine ⟨_, rfl, _, rfl, .inl ⟨z, rfl, hz, hk, fun H9 e9 => ?_⟩⟩
                  refine ⟨_, rfl, _, rfl, ?_⟩
                  refine ite2 (fun hb => ?_) (fun hb => ?_)
                  · have q2 : nmOf z = c2 z := by rw [hnm, if_pos hb]
                    refine ⟨_, rfl, _, rfl, _, rfl, z, rfl, le_line hz, _, rfl, .inl ⟨_, rfl, Nat.le_trans (cutS_length z _ _) hz, cut_ok z _ _ hk, fun H10 e10 => ⟨le_line (Nat.le_of_ble_eq_true rfl), fun L hL => ⟨L, rfl, (e9.trans e10).trans (Evl.Ex.new hL), ?_⟩⟩⟩⟩
                    rw [upd_same, q2]
                    rfl
                  · have q2 : nmOf z = z := by rw [hnm, if_neg hb]
                    refine ⟨_, rfl, _, rfl, .inl ⟨z, rfl, hz, hk, fun H10 e10 => ⟨le_line (Nat.le_of_ble_eq_true rfl), fun L hL => ⟨L, rfl, (e9.trans e10).trans (Evl.Ex.new hL), ?_⟩⟩⟩⟩
                    rw [upd_same, q2]
                · rintro σ' H9 ⟨L, rfl, e9, hL⟩
                  refine ⟨_, rfl, _, rfl, .inl ⟨z, rfl, hz, hk, fun H10 e10 => ?_⟩⟩
                  refine ⟨_, rfl, _, rfl, .inl ⟨z, rfl, hz, hk, fun H11 e11 => ⟨le_line (Nat.le_of_ble_eq_true rfl), fun Lq hLq => ?_⟩⟩⟩
                  have e12 := (e10.trans e11).trans (Evl.Ex.new (o := .lst [.bl (isNm z), .bl (isNm (nmOf z))]) hLq)
                  refine ⟨_, rfl, .list [.bool (isNm z), .bool (isNm (nmOf z))], .list [.bool (isNm z), .bool (isNm (nmOf z))], .lst (SqL.of upd_same) (.cons (.bl _) (.cons (.bl _) .nil)), .lst (SqL.of (e12 _ _ hL)) (.cons (.bl _) (.cons (.bl _) .nil)), ?_, ?_, ?_⟩
                  · cases isNm z <;> cases isNm (nmOf z) <;> decide +kernel
                  · cases isNm z <;> cases isNm (nmOf z) <;> decide +kernel
                  have ev : PyData.eqv (.list [.bool (isNm z), .bool (isNm (nmOf z))]) (.list [.bool (isNm z), .bool (isNm (nmOf z))]) = true := by
                    cases isNm z <;> cases isNm (nmOf z) <;> decide +kernel
                  rw [ev]
                  refine ⟨_, rfl, iteF ?_⟩
                  have hL3 := e12 _ _ hL
                  refine ⟨_, rfl, L, _, 1, .bl (isNm (nmOf z)), rfl, rfl, SqL.of hL3, rfl, _, rfl, ?_⟩
                  have fin : ∀ H12, Evl.Ex H9 H12 → Evl.Ex (upd H5 q4 (.lst xs)) H12 ∧ ∃ v5 v6 v7, ([some (V.ref a), some (V.ref o), some (V.int (0 + (i : Int))), some (V.ref p), some (V.ref D), some (V.str z), some (V.bl (eb z)), some (V.ref L), none, none] : L2.St) = [some (.ref a), some (.ref o), some (.int (0 + (i : Int))), some (.ref p), some (.ref D), v5, v6, v7, none, none] :=
                    fun H12 e => ⟨(e7.trans e9).trans e, _, _, _, rfl⟩
                  refine ite2 (fun hn => ?_) (fun hn => iteF (fin _ e12))
                  refine ⟨_, rfl, z, rfl, hz, ?_⟩
                  refine ⟨_, rfl, _, rfl, ?_⟩
                  by_cases hb : eb z = true
                  · rw [if_pos hb]
                    dsimp only
                    rw [if_pos hb]
                    refine ⟨_, rfl, _, rfl, _, rfl, z, rfl, le_line hz, rfl, _, rfl, ?_⟩
                    have q2 : decide (V.str (c2 z) = V.str (cutS z none (some (-2)))) = true := decide_eq_true rfl
                    show (if (!decide (V.str (c2 z) = V.str (cutS z none (some (-2))))) = true then _ else _)
                    rw [q2]
                    exact iteF (fin _ e12)
                  · rw [if_neg hb]
                    dsimp only
                    rw [if_neg hb]
                    refine ⟨rfl, _, rfl, ?_⟩
                    exact iteF (fin _ e12)
              · obtain ⟨t, ty, kt⟩ := id hno
                refine ⟨_, rfl, _, _, _, _, false, rfl, .ty "str", ty, kit_ty kt, false, rfl, ?_⟩
                rw [if_neg Bool.false_ne_true]
                refine ⟨fun σ' H' => ∃ L : Addr, σ' = [some (V.ref a), some (V.ref o), some (V.int (0 + (i : Int))), some (V.ref p), some (V.ref D), some y, some (V.bl false), some (V.ref L), none, none] ∧ Evl.Ex H8 H' ∧ H' L = some (.lst [.bl false, .bl false]), ?_, ?_⟩
                · refine ⟨_, rfl, _, rfl, .inr ⟨hno, ?_⟩⟩
                  refine ⟨_, rfl, _, rfl, iteF ?_⟩
                  refine ⟨_, rfl, _, rfl, .inr ⟨hno, le_line (Nat.le_of_ble_eq_true rfl), fun L hL => ⟨L, rfl, Evl.Ex.new hL, upd_same⟩⟩⟩
                · rintro σ' H9 ⟨L, rfl, e9, hL⟩
                  have hno9 : NoStr K H9 y := by
                    rcases (hIt y (List.mem_of_getElem? hy)).no (hF7.ex e9) with ⟨z, rfl, _⟩ | q
                    · exfalso
                      obtain ⟨t, ty, kt⟩ := hno
                      cases ty with
                      | base b =>
                        cases b
                        have := kit_str
                        rw [kt] at this
                        cases this
                    · exact q
                  refine ⟨_, rfl, _, rfl, .inr ⟨hno9, ?_⟩⟩
                  refine ⟨_, rfl, _, rfl, .inr ⟨hno9, le_line (Nat.le_of_ble_eq_true rfl), fun Lq hLq => ?_⟩⟩
                  have e12 := Evl.Ex.new (o := .lst [.bl false, .bl false]) hLq
                  refine ⟨_, rfl, .list [.bool false, .bool false], .list [.bool false, .bool false], .lst (SqL.of upd_same) (.cons (.bl _) (.cons (.bl _) .nil)), .lst (SqL.of (e12 _ _ hL)) (.cons (.bl _) (.cons (.bl _) .nil)), by decide +kernel, by decide +kernel, ?_⟩
                  have ev : PyData.eqv (.list [.bool false, .bool false]) (.list [.bool false, .bool false]) = true := by decide +kernel
                  rw [ev]
                  refine ⟨_, rfl, iteF ?_⟩
                  have hL3 := e12 _ _ hL
                  refine ⟨_, rfl, L, _, 1, .bl false, rfl, rfl, SqL.of hL3, rfl, _, rfl, ?_⟩
                  refine iteF (iteF ?_)
                  exact ⟨(e7.trans e9).trans e12, _, _, _, rfl⟩
            · rintro σ H7 ⟨e7, u5, u6, u7, rfl⟩
              exact ⟨e6.trans e7, _, _, _, _, _, _, rfl⟩
      · rintro σ H1 ⟨e, v2, v3, v4, v5, v6, v7, rfl⟩
        refine ⟨le_line (Nat.le_of_ble_eq_true rfl), fun q hq => ?_⟩
        refine ⟨.tuple [.str "", .str "top"], .tuple [.str "", .str "top"], .tup (hTop _) (.cons (.str _) (.cons (.str _) .nil)), .tup (SqT.of upd_same) (.cons (.str _) (.cons (.str _) .nil)), by decide +kernel, by decide +kernel, true, ?_, ?_⟩
        · exact congrArg V.bl (by decide +kernel)
        · rw [if_pos rfl]
          exact ⟨_, _, _, _, true, rfl, .ty "tuple", .kTuple lT cT, kit_ty (by decide +kernel), hQ _⟩
end
end K01
set_option Elab.async false
set_option linter.all false
set_option maxRecDepth 100000
set_option maxHeartbeats 0
namespace K01
open PySem PySem.Spec PyProof.Rows L2
theorem top_at {K : PySem.W.Frag} {x : Str} {vs : List He.Dv} (h : He.tupB K x vs = true) : ∃ o, K.lookup (He.ga K x) = some o ∧ o.cls = .type "tuple" := by
  unfold He.tupB at h
  split at h
  · rename_i c dd its n sl e
    rw [Bool.and_eq_true] at h
    have hc : c = "tuple" := of_decide_eq_true h.1
    subst hc
    exact ⟨_, e, rfl⟩
  · cases h
theorem facts {P : Program} {w : World} {K : PySem.W.Frag} {h : Heap} {mg : Str → Option Value} {f : Addr} (X : K.In h) (G : h.Ns mainGlobals mg) (hfa : mg ("law" : Str) = some (.ref f)) (c : He.SaysX fa fn [] [] ex w h K) :
    ∃ fd : FuncData, (∀ (s : Shared) (v : Value), BindsTo s fd ⟨[v], []⟩ [("_law_script", v)]) ∧ ∀ base : Heap, K.In base → base.Ns mainGlobals mg → FnOk P w K mg base CX0 3 f fd ["_law_script"] (spLaw K) := by
  have d := c.t.d
  obtain ⟨fN, FN⟩ := d.def_ 0 (d := dfn "is_name" 4) rfl
  obtain ⟨fE, FE⟩ := d.def_ 1 (d := dfn "element_of" 5) rfl
  obtain ⟨fY, FY⟩ := d.def_ 2 (d := dfn "is_type" 6) rfl
  obtain ⟨fS, FS⟩ := d.def_ 3 (d := dfn "_law_source" 8) rfl
  obtain ⟨fD, FD⟩ := d.def_ 4 (d := dfn "_law_draw" 9) rfl
  obtain ⟨fL, FL⟩ := d.def_ 5 (d := dfn "_law_is_name" 10) rfl
  obtain ⟨fX, FX⟩ := d.def_ 6 (d := dfn "_law_text" 11) rfl
  obtain ⟨fd, F⟩ := d.def_ 7 (d := dfn "law" 12) rfl
  have e := hfa.symm.trans (He.glo_ok X G (d.fact 9 (f := .glo "law") rfl))
  cases e
  have T : Txt K mg := ⟨He.free_ok X G (d.fact 10 (f := .free "isinstance") rfl), He.free_ok X G (d.fact 11 (f := .free "len") rfl), He.free_ok X G (d.fact 12 (f := .free "all") rfl), He.free_ok X G (d.fact 13 (f := .free "str") rfl), He.free_ok X G (d.fact 14 (f := .free "max") rfl), He.free_ok X G (d.fact 15 (f := .free "min") rfl), He.free_ok X G (d.fact 16 (f := .free "int") rfl), He.free_ok X G (d.fact 17 (f := .free "range") rfl), He.free_ok X G (d.fact 18 (f := .free "tuple") rfl)⟩
  have hx : He.tupB K "TOP" [.str "", .str "top"] = true := c.more
  obtain ⟨oT, lT, cT⟩ := top_at hx
  have D : Defs K mg := ⟨T, He.str_ok X G (d.fact 0 (f := .str "LETTERS" "abcdefghijklmnopqrstuvwxyz") rfl), ⟨_, oT, He.glo_ok X G (d.fact 1 (f := .glo "TOP") rfl), lT, cT, fun H => He.tupB_ok hx H⟩,
    ⟨_, fN, He.glo_ok X G (d.fact 2 (f := .glo "is_name") rfl), FN⟩, ⟨_, fE, He.glo_ok X G (d.fact 3 (f := .glo "element_of") rfl), FE⟩, ⟨_, fY, He.glo_ok X G (d.fact 4 (f := .glo "is_type") rfl), FY⟩,
    ⟨_, fS, He.glo_ok X G (d.fact 5 (f := .glo "_law_source") rfl), FS⟩, ⟨_, fD, He.glo_ok X G (d.fact 6 (f := .glo "_law_draw") rfl), FD⟩, ⟨_, fL, He.glo_ok X G (d.fact 7 (f := .glo "_law_is_name") rfl), FL⟩, ⟨_, fX, He.glo_ok X G (d.fact 8 (f := .glo "_law_text") rfl), FX⟩⟩
  have b := FunD.bindsA (ps := ["_law_script"]) F fun _ _ _ _ _ _ us hl => match us, hl with | [_], _ => rfl
  exact ⟨fd, fun s v => b s [v] rfl, fun base _ _ => ok_law F D⟩
end K01
open PySem PySem.W PySem.Calls PyProof.Rows
theorem PySem.Challenge.cw_lateclasses_k01_names_and_types_holds : PySem.Challenge.rw_lateclasses_k01_names_and_types.Holds := by
  w_on; o_law
  refine HandSHeadRun.head_any (r := OpenLaw.row K01.RW) (q := view (OpenLaw.row K01.RW).prog [12]) (H := K01.hk) (ob := K01.ob) (M := 600) (loose := K01.loose) (d := HandSHeadRun.topDef (OpenLaw.row K01.RW).prog 12) (kwd := []) K01.ob_eq
    (by kernel_rfl) (fun s => by kernel_rfl) K01.run (by kernel_rfl) (by kernel_rfl) (by kernel_rfl) (by rfl) (by first | assumption | decide +kernel) (by decide +kernel) ⟨rfl, rfl, rfl, rfl, rfl, by decide +kernel⟩ ?hw ?hc
  case hw => w_witness2
  case hc =>
    refine L2.walk_ofE (l := K01.RW) (n := 63) (k := 3) (x := "_law_script") (CX := L2.CX0) rfl (by decide) (by kernel_rfl) ⟨rfl, by decide, by decide⟩ ?F (fun _ _ _ _ z => z)
    intro w mg fa h Y G hmg0
    obtain ⟨K, KX, c⟩ := Y
    have hmg : mg ("law" : PySem.Str) = some (.ref fa) := by
      have e : (HandSHeadRun.topDef (OpenLaw.row K01.RW).prog 12).name = ("law" : PySem.Str) := by kernel_rfl
      rw [← e]
      exact hmg0
    obtain ⟨fd, hb, hF⟩ := K01.facts (P := K01.RW.prog) (w := w) KX G hmg c
    exact ⟨K, fd, K01.spLaw K, KX, hb, fun H a ns hl _ hS => ⟨a, ns, rfl, hS, hl, fun _ => rfl⟩, hF⟩
